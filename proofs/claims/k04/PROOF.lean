import PyProof.Rows.All
import Wide.All
import OpenK.AllK
import Wide.FinOn
import HandS.ForMost
import HandS.ForExc
import HandS.Flow
import HandS.IsInst
import HandS.Walk
import HandS.Conv
import HandS.ExcInit
import HandS.ExcOwn
import HandS.TryMany
import HandS.ExcSuper
import KE.KSuper
import KE.KExcSuper
import HandS.ExcField
import HandS.WordsExc
import HandS.ExcIs
import KE.KExcIs
import KE.RegKSuper
import KE.RegKTryMore
import KE.RegKIsAll
import HandS.DictComp
import HandS.CallSlots
import HandS.Property
import HandS.ClsMeth
import HandS.SetFor
import HandS.Defaults
import HandS.ReplaceList
import HandS.ReplaceLit
import HandS.RaiseMore
import HandS.Style
import HandS.Text
import PyProof.Rows.RegReprOcc
import PyProof.Rows.StrMeet
import KE.DatumOrd
import HandS.TupAny
import HandS.Iter
import HandS.Remove
import HandS.Strs
import HandS.Deep
import HandS.SortInts
import PyProof.AutoSeq1
import HandS.HotCalls
import HandS.MakeKw
import HandS.GenCall
import HandS.GenList
import HandS.Star
import PySem.Challenge.RW_lockrules_k04_one_condition
set_option Elab.async false
set_option linter.all false
set_option maxRecDepth 100000
noncomputable section
set_option Elab.async false
set_option linter.all false
set_option maxRecDepth 100000
set_option maxHeartbeats 4000000
set_option autoImplicit false
namespace LK
open PySem L2
abbrev Rp (α : Type) := Hp → V → α → Prop
def Ex (H H' : Hp) : Prop := ∀ a o, H a = some o → H' a = some o
theorem Ex.refl (H : Hp) : Ex H H := fun _ _ h => h
theorem Ex.trans {H H1 H2 : Hp} (a : Ex H H1) (b : Ex H1 H2) : Ex H H2 := fun x o h => b x o (a x o h)
theorem Ex.back {H H' : Hp} {p : Addr} (e : Ex H H') (h : H' p = none) : H p = none := by
  cases h1 : H p with
  | none => rfl
  | some o => rw [e p o h1] at h; cases h
theorem Ex.new {H : Hp} {p : Addr} {o : HO} (h : H p = none) : Ex H (upd H p o) := fun a u e => by
  rw [upd_ne (ne_of_none e h)]; exact e
/-- what an object is, locked or not -/
def core : HO → HO
  | .frz _ u => u
  | o => o
def isD : HO → Bool
  | .dK _ => true
  | .dT _ => true
  | _ => false
/-- as Ex (once: up to locks) -/
def Exs (F F' : Hp) : Prop := Ex F F'
theorem Ex.s {H H' : Hp} (e : Ex H H') : Exs H H' := e
theorem Exs.at_ {F F' : Hp} {p : Addr} {o : HO} (e : Exs F F') (h : F p = some o) (hd : isD (core o) = false) : F' p = some o := e p o h
theorem Exs.rd {F F' : Hp} {p : Addr} {u : HO} (e : Exs F F') (h : Rd F p u) (hd : isD u = true) : Rd F' p u := by
  rcases h with h | ⟨ob, h⟩
  · exact .inl (e _ _ h)
  · exact .inr ⟨ob, e _ _ h⟩
class Mo {α : Type} (r : Rp α) : Prop where
  mo : ∀ {F F' : Hp} {v : V} {a : α}, Exs F F' → r F v a → r F' v a
theorem Mo.ex {α : Type} {r : Rp α} (i : Mo r) {F F' : Hp} {v : V} {a : α} (e : Ex F F') (h : r F v a) : r F' v a := i.mo e.s h
theorem mox {α : Type} {r : Rp α} [i : Mo r] {F F' : Hp} {v : V} {a : α} (e : Ex F F') (h : r F v a) : r F' v a := i.mo e.s h
/-- what does not lean on the heap -/
class Fl {α : Type} (r : Rp α) : Prop where
  fl : ∀ {F F' : Hp} {v : V} {a : α}, r F v a → r F' v a
instance {α : Type} (r : Rp α) [h : Fl r] : Mo r := ⟨fun _ x => h.fl x⟩
def rInt : Rp Int := fun _ v a => v = .int a
def rBl : Rp Bool := fun _ v a => v = .bl a
def rNon : Rp Unit := fun _ v _ => v = .non
def rTx : Rp (List Nat) := fun _ v a => v = .str ⟨a.toArray⟩ ∧ a.length ≤ 16777216 ∧ ∀ c ∈ a, c < 1114112
def rRef : Rp Addr := fun _ v a => v = .ref a
instance : Fl rInt := ⟨fun h => h⟩
instance : Fl rBl := ⟨fun h => h⟩
instance : Fl rNon := ⟨fun h => h⟩
instance : Fl rTx := ⟨fun h => h⟩
instance : Fl rRef := ⟨fun h => h⟩
def rLst {α : Type} (r : Rp α) : Rp (List α) := fun F v xs => ∃ p vs, v = .ref p ∧ F p = some (.lst vs) ∧ xs.length ≤ 16777216 ∧ Paired (r F) vs xs
def rTup {α : Type} (r : Rp α) : Rp (List α) := fun F v xs => ∃ p vs, v = .ref p ∧ F p = some (.tup vs) ∧ xs.length ≤ 16777216 ∧ Paired (r F) vs xs
def rPr {α β : Type} (r : Rp α) (s : Rp β) : Rp (α × β) := fun F v x => ∃ p u w, v = .ref p ∧ F p = some (.tup [u, w]) ∧ r F u x.1 ∧ s F w x.2
def rP3 {α β γ : Type} (r : Rp α) (s : Rp β) (t : Rp γ) : Rp (α × β × γ) := fun F v x => ∃ p u w z, v = .ref p ∧ F p = some (.tup [u, w, z]) ∧ r F u x.1 ∧ s F w x.2.1 ∧ t F z x.2.2
/-- never None -/
class Nn {α : Type} (r : Rp α) : Prop where
  nn : ∀ {F : Hp} {v : V} {a : α}, r F v a → v ≠ .non
def rOpt {α : Type} (r : Rp α) : Rp (Option α) := fun F v x => match x with
  | none => v = .non
  | some a => r F v a
theorem pmap {α β : Type} {R S : α → β → Prop} : ∀ {xs : List α} {ys : List β}, (∀ a b, R a b → S a b) → Paired R xs ys → Paired S xs ys
  | _, _, _, .nil => .nil
  | _, _, f, .cons h t => .cons (f _ _ h) (pmap f t)
instance {α : Type} (r : Rp α) [h : Mo r] : Mo (rLst r) := ⟨fun e ⟨p, vs, h1, h2, h3, h4⟩ => ⟨p, vs, h1, e.at_ h2 rfl, h3, pmap (fun _ _ z => h.mo e z) h4⟩⟩
instance {α : Type} (r : Rp α) [h : Mo r] : Mo (rTup r) := ⟨fun e ⟨p, vs, h1, h2, h3, h4⟩ => ⟨p, vs, h1, e.at_ h2 rfl, h3, pmap (fun _ _ z => h.mo e z) h4⟩⟩
instance {α β : Type} (r : Rp α) (s : Rp β) [h : Mo r] [g : Mo s] : Mo (rPr r s) := ⟨fun e ⟨p, u, w, h1, h2, h3, h4⟩ => ⟨p, u, w, h1, e.at_ h2 rfl, h.mo e h3, g.mo e h4⟩⟩
instance {α β γ : Type} (r : Rp α) (s : Rp β) (t : Rp γ) [h : Mo r] [g : Mo s] [k : Mo t] : Mo (rP3 r s t) := ⟨fun e ⟨p, u, w, z, h1, h2, h3, h4, h5⟩ => ⟨p, u, w, z, h1, e.at_ h2 rfl, h.mo e h3, g.mo e h4, k.mo e h5⟩⟩
instance {α : Type} (r : Rp α) [h : Mo r] : Mo (rOpt r) := ⟨fun {F F' v a} e x => by
  cases a with
  | none => exact x
  | some b => exact h.mo e x⟩
instance {α : Type} (r : Rp α) [h : Fl r] : Fl (rOpt r) := ⟨fun {F F' v a} x => by
  cases a with
  | none => exact x
  | some b => exact h.fl x⟩
instance : Nn rInt := ⟨fun h => by rw [show _ = _ from h]; intro z; cases z⟩
instance : Nn rBl := ⟨fun h => by rw [show _ = _ from h]; intro z; cases z⟩
instance : Nn rTx := ⟨fun h => by rw [h.1]; intro z; cases z⟩
instance {α : Type} (r : Rp α) : Nn (rLst r) := ⟨fun ⟨_, _, h, _⟩ => by rw [h]; intro z; cases z⟩
instance {α : Type} (r : Rp α) : Nn (rTup r) := ⟨fun ⟨_, _, h, _⟩ => by rw [h]; intro z; cases z⟩
instance {α β : Type} (r : Rp α) (s : Rp β) : Nn (rPr r s) := ⟨fun ⟨_, _, _, h, _⟩ => by rw [h]; intro z; cases z⟩
/-- a tuple -/
def isT : HO → Bool
  | .tup _ => true
  | _ => false
/-- F: what never changes from here on; H: all that is tracked -/
structure Gr (F H F' H' : Hp) : Prop where
  ff : Ex F F'
  fh : Ex F' H'
  hh : Ex H H'
  nw : ∀ p o, F' p = some o → F p = none → H p = none ∨ isT o = true
theorem Gr.refl {F H : Hp} (e : Ex F H) : Gr F H F H := ⟨Ex.refl F, e, Ex.refl H, fun p o h1 h2 => by rw [h1] at h2; cases h2⟩
theorem Gr.trans {F H F1 H1 F2 H2 : Hp} (a : Gr F H F1 H1) (b : Gr F1 H1 F2 H2) : Gr F H F2 H2 := ⟨a.ff.trans b.ff, b.fh, a.hh.trans b.hh, fun p o h1 h2 => by
  cases e : F1 p with
  | none => exact (b.nw p o h1 e).imp (fun z => a.hh.back z) id
  | some u =>
    have z := b.ff p u e
    rw [h1] at z; cases z
    exact a.nw p o e h2⟩
theorem Gr.frO {F H F' H' : Hp} {a : Addr} (g : Gr F H F' H') (h1 : F a = none) (hn : H a ≠ none) (ty : ∀ o, H a = some o → isT o = false) : F' a = none := by
  cases q : F' a with
  | none => rfl
  | some u =>
    rcases g.nw a u q h1 with z | z
    · exact absurd z hn
    · cases h : H a with
      | none => exact absurd h hn
      | some o =>
        have e := g.hh a o h
        rw [g.fh a u q] at e
        cases e
        rw [ty _ h] at z; cases z
theorem Gr.fr {F H F' H' : Hp} {a : Addr} {o : HO} (g : Gr F H F' H') (h1 : F a = none) (h2 : H a = some o) (ht : isT o = false) : F' a = none :=
  g.frO h1 (by rw [h2]; exact fun z => nomatch z) fun o' e => by rw [h2] at e; cases e; exact ht
/-- a new object, frozen at once -/
theorem Gr.new {F H : Hp} {p : Addr} {o : HO} (e : Ex F H) (h : H p = none) : Gr F H (upd F p o) (upd H p o) := by
  have hF := e.back h
  refine ⟨Ex.new hF, fun a u q => ?_, Ex.new h, fun a u q n => ?_⟩
  · by_cases ha : a = p
    · subst ha; rw [upd_same] at q ⊢; exact q
    · rw [upd_ne ha] at q ⊢; exact e a u q
  · by_cases ha : a = p
    · subst ha; exact .inl h
    · rw [upd_ne ha, n] at q; cases q
/-- a new object, not frozen -/
theorem Gr.wild {F H : Hp} {p : Addr} {o : HO} (e : Ex F H) (h : H p = none) : Gr F H F (upd H p o) :=
  ⟨Ex.refl F, e.trans (Ex.new h), Ex.new h, fun a u q n => by rw [n] at q; cases q⟩
/-- an own thing that may still change: over what is frozen, the heap, its root, the addresses that are its own -/
abbrev Mu := Hp → Hp → Addr → List Addr → Prop
class MoM (M : Mu) : Prop where
  mo : ∀ {F F' H H' : Hp} {p : Addr} {S : List Addr}, Exs F F' → (∀ a ∈ S, H' a = H a) → M F H p S → M F' H' p S
  own : ∀ {F H : Hp} {p : Addr} {S : List Addr}, M F H p S → ∀ a ∈ S, H a ≠ none
  ty : ∀ {F H : Hp} {p : Addr} {S : List Addr}, M F H p S → ∀ a ∈ S, ∀ o, H a = some o → isT o = false
/-- an own list -/
def mL {α : Type} (r : Rp α) (xs : List α) : Mu := fun F H p S => S = [p] ∧ ∃ vs, H p = some (.lst vs) ∧ xs.length ≤ 16777216 ∧ Paired (r F) vs xs
instance {α : Type} (r : Rp α) [h : Mo r] (xs : List α) : MoM (mL r xs) := ⟨fun e k ⟨h0, vs, h1, h2, h3⟩ => ⟨h0, vs, by rw [k _ (by rw [h0]; exact List.mem_cons_self)]; exact h1, h2, pmap (fun _ _ z => h.mo e z) h3⟩,
  fun ⟨h0, vs, h1, _⟩ a ha => by rw [h0] at ha; rw [List.mem_singleton.mp ha, h1]; exact (fun z => nomatch z), fun ⟨h0, vs, h1, _⟩ a ha o e => by rw [h0] at ha; rw [List.mem_singleton.mp ha, h1] at e; cases e; rfl⟩
inductive Slot : Type 1
  | no
  | fz {α : Type} (r : Rp α) (i : Mo r) (a : α)
  | bw {α : Type} (r : Rp α) (i : Mo r) (a : α)
  | ow (M : Mu) (i : MoM M)
abbrev sF {α : Type} (r : Rp α) [i : Mo r] (a : α) : Slot := .fz r i a
abbrev sB {α : Type} (r : Rp α) [i : Mo r] (a : α) : Slot := .bw r i a
abbrev sO (M : Mu) [i : MoM M] : Slot := .ow M i
abbrev sL {α : Type} (r : Rp α) [Mo r] (xs : List α) : Slot := sO (mL r xs)
def SlotOk (H0 F H : Hp) (s : Option V) (S : List Addr) : Slot → Prop
  | .no => True
  | .fz r _ a => ∃ v, s = some v ∧ r F v a
  | .bw r _ a => ∃ v, s = some v ∧ r H0 v a
  | .ow M _ => ∃ p, s = some (.ref p) ∧ (∀ a ∈ S, F a = none ∧ H0 a = none) ∧ M F H p S
structure EnvF (F0 H0 : Hp) (G : List Slot) (σ : L2.St) (F H : Hp) (fp : Nat → List Addr) : Prop where
  gr : Gr F0 H0 F H
  len : σ.length = G.length
  at_ : ∀ (i : Nat) (s : Slot), G[i]? = some s → ∃ x, σ[i]? = some x ∧ SlotOk H0 F H x (fp i) s
  dj : ∀ (i j : Nat) (M : Mu) (iM : MoM M) (N : Mu) (iN : MoM N) (a : Addr), i ≠ j → G[i]? = some (.ow M iM) → G[j]? = some (.ow N iN) → a ∈ fp i → a ∉ fp j
def EnvOk (F0 H0 : Hp) (G : List Slot) (σ : L2.St) (F H : Hp) : Prop := ∃ fp, EnvF F0 H0 G σ F H fp
section
variable {F0 H0 F H F' H' : Hp} {G : List Slot} {σ : L2.St}
theorem EnvOk.gr (E : EnvOk F0 H0 G σ F H) : Gr F0 H0 F H := let ⟨_, e⟩ := E; e.gr
theorem EnvOk.len (E : EnvOk F0 H0 G σ F H) : σ.length = G.length := let ⟨_, e⟩ := E; e.len
theorem EnvOk.fz_at {α : Type} {r : Rp α} {im : Mo r} {a : α} {i : Nat} (E : EnvOk F0 H0 G σ F H) (h : G[i]? = some (.fz r im a)) : ∃ v, σ[i]? = some (some v) ∧ r F v a := by
  obtain ⟨fp, e⟩ := E
  obtain ⟨x, hx, v, hv, ok⟩ := e.at_ i _ h
  exact ⟨v, by rw [hx, hv], ok⟩
theorem EnvOk.bw_at {α : Type} {r : Rp α} {im : Mo r} {a : α} {i : Nat} (E : EnvOk F0 H0 G σ F H) (h : G[i]? = some (.bw r im a)) : ∃ v, σ[i]? = some (some v) ∧ r H0 v a := by
  obtain ⟨fp, e⟩ := E
  obtain ⟨x, hx, v, hv, ok⟩ := e.at_ i _ h
  exact ⟨v, by rw [hx, hv], ok⟩
theorem EnvOk.ow_at {M : Mu} {iM : MoM M} {i : Nat} (E : EnvOk F0 H0 G σ F H) (h : G[i]? = some (.ow M iM)) : ∃ p S, σ[i]? = some (some (.ref p)) ∧ (∀ a ∈ S, F a = none ∧ H0 a = none) ∧ M F H p S := by
  obtain ⟨fp, e⟩ := E
  obtain ⟨x, hx, p, hp, ok⟩ := e.at_ i _ h
  exact ⟨p, _, by rw [hx, hp], ok⟩
theorem EnvOk.lst_at {α : Type} {r : Rp α} {xs : List α} {iM : MoM (mL r xs)} {i : Nat} (E : EnvOk F0 H0 G σ F H) (h : G[i]? = some (.ow (mL r xs) iM)) : ∃ p vs, σ[i]? = some (some (.ref p)) ∧ F p = none ∧ H0 p = none ∧ H p = some (.lst vs) ∧ xs.length ≤ 16777216 ∧ Paired (r F) vs xs := by
  obtain ⟨p, S, e, h1, rfl, vs, h2, h3, h4⟩ := E.ow_at h
  exact ⟨p, vs, e, (h1 p (by simp)).1, (h1 p (by simp)).2, h2, h3, h4⟩
theorem EnvOk.gro (E : EnvOk F0 H0 G σ F H) (g : Gr F H F' H') : EnvOk F0 H0 G σ F' H' := by
  obtain ⟨fp, E⟩ := E
  refine ⟨fp, E.gr.trans g, E.len, fun i s h => ?_, E.dj⟩
  obtain ⟨x, hx, ok⟩ := E.at_ i s h
  refine ⟨x, hx, ?_⟩
  cases s with
  | no => trivial
  | fz r im a => obtain ⟨v, e, q⟩ := ok; exact ⟨v, e, im.ex g.ff q⟩
  | bw r im a => exact ok
  | ow M im =>
    obtain ⟨p, e, h1, h2⟩ := ok
    refine ⟨p, e, fun a ha => ⟨?_, (h1 a ha).2⟩, im.mo g.ff.s (fun a ha => ?_) h2⟩
    · exact g.frO (h1 a ha).1 (im.own h2 a ha) (im.ty h2 a ha)
    · cases q : H a with
      | none => exact absurd q (im.own h2 a ha)
      | some u => exact g.hh a u q
theorem set_get.{u} {α : Type u} {l : List α} {i j : Nat} {x y : α} (h : (l.set i x)[j]? = some y) : (i = j ∧ i < l.length ∧ x = y) ∨ (i ≠ j ∧ l[j]? = some y) := by
  by_cases e : i = j
  · subst e
    by_cases hl : i < l.length
    · rw [List.getElem?_set_self hl] at h; exact .inl ⟨rfl, hl, Option.some.inj h⟩
    · rw [List.getElem?_eq_none (by simpa using hl)] at h; cases h
  · rw [List.getElem?_set_ne e] at h; exact .inr ⟨e, h⟩
/-- a slot is stored, no own thing -/
theorem EnvOk.set {i : Nat} {s : Slot} {v : V} (E : EnvOk F0 H0 G σ F H) (ok : SlotOk H0 F H (some v) [] s) (hn : ∀ M im, s ≠ .ow M im) : EnvOk F0 H0 (G.set i s) (σ.set i (some v)) F H := by
  obtain ⟨fp, E⟩ := E
  refine ⟨fp, E.gr, by rw [List.length_set, List.length_set, E.len], fun j t h => ?_, fun j k M iM N iN a hjk h1 h2 h3 => ?_⟩
  · rcases set_get h with ⟨rfl, hl, rfl⟩ | ⟨ne, h⟩
    · refine ⟨_, by rw [List.getElem?_set_self (by rw [E.len]; exact hl)], ?_⟩
      cases s with
      | ow M im => exact absurd rfl (hn M im)
      | no => trivial
      | fz r im a => exact ok
      | bw r im a => exact ok
    · obtain ⟨x, hx, o⟩ := E.at_ j t h
      exact ⟨x, by rw [List.getElem?_set_ne ne]; exact hx, o⟩
  · rcases set_get h1 with ⟨_, _, e⟩ | ⟨n1, h1⟩
    · exact absurd e (hn M iM)
    · rcases set_get h2 with ⟨_, _, e⟩ | ⟨n2, h2⟩
      · exact absurd e (hn N iN)
      · exact E.dj j k M iM N iN a hjk h1 h2 h3
/-- a slot gets a new own thing, at addresses that were free -/
theorem EnvOk.setO {i : Nat} {M : Mu} {im : MoM M} {p : Addr} {S : List Addr} (E : EnvOk F0 H0 G σ F H) (g : Gr F H F' H') (hS : ∀ a ∈ S, H a = none ∧ F' a = none) (m : M F' H' p S) : EnvOk F0 H0 (G.set i (.ow M im)) (σ.set i (some (.ref p))) F' H' := by
  have hE := E
  obtain ⟨fp, E⟩ := E
  have old : ∀ (j : Nat) (N : Mu) (iN : MoM N) (a : Addr), G[j]? = some (.ow N iN) → a ∈ fp j → a ∉ S := fun j N iN a h1 h2 h3 => by
    obtain ⟨x, hx, q, _, _, ok⟩ := E.at_ j _ h1
    exact iN.own ok a h2 (hS a h3).1
  obtain ⟨fp', E'⟩ : ∃ fp', EnvF F0 H0 G σ F' H' fp' ∧ fp' = fp := by
    refine ⟨fp, ⟨E.gr.trans g, E.len, fun j s h => ?_, E.dj⟩, rfl⟩
    obtain ⟨x, hx, ok⟩ := E.at_ j s h
    refine ⟨x, hx, ?_⟩
    cases s with
    | no => trivial
    | fz r im a => obtain ⟨v, e, q⟩ := ok; exact ⟨v, e, im.ex g.ff q⟩
    | bw r im a => exact ok
    | ow N iN =>
      obtain ⟨q, e, h1, h2⟩ := ok
      refine ⟨q, e, fun a ha => ⟨?_, (h1 a ha).2⟩, iN.mo g.ff.s (fun a ha => ?_) h2⟩
      · exact g.frO (h1 a ha).1 (iN.own h2 a ha) (iN.ty h2 a ha)
      · cases z : H a with
        | none => exact absurd z (iN.own h2 a ha)
        | some u => exact g.hh a u z
  obtain ⟨E', rfl⟩ := E'
  refine ⟨fun j => if j = i then S else fp' j, E'.gr, by rw [List.length_set, List.length_set, E.len], fun j t h => ?_, fun j k N iN N' iN' a hjk h1 h2 h3 => ?_⟩
  · rcases set_get h with ⟨rfl, hl, rfl⟩ | ⟨ne, h⟩
    · refine ⟨_, by rw [List.getElem?_set_self (by rw [E.len]; exact hl)], p, rfl, fun a ha => ?_, ?_⟩
      · rw [if_pos rfl] at ha
        exact ⟨(hS a ha).2, E.gr.hh.back (hS a ha).1⟩
      · rw [if_pos rfl]; exact m
    · obtain ⟨x, hx, o⟩ := E'.at_ j t h
      refine ⟨x, by rw [List.getElem?_set_ne ne]; exact hx, ?_⟩
      rw [if_neg (fun e => ne e.symm)]
      exact o
  · rcases set_get h1 with ⟨rfl, _, _⟩ | ⟨n1, h1⟩
    · rw [if_pos rfl] at h3
      rw [if_neg (fun e => hjk e.symm)]
      rcases set_get h2 with ⟨e', _, _⟩ | ⟨n2, h2⟩
      · exact absurd e' hjk
      · exact fun z => old k _ _ a h2 z h3
    · rw [if_neg (fun e => n1 e.symm)] at h3
      rcases set_get h2 with ⟨rfl, _, _⟩ | ⟨n2, h2⟩
      · rw [if_pos rfl]; exact old j _ _ a h1 h3
      · rw [if_neg (fun e => n2 e.symm)]
        exact E.dj j k N iN N' iN' a hjk h1 h2 h3
/-- an own thing changes: what was its own or is new, nothing else -/
theorem EnvOk.mut {i : Nat} {M N : Mu} {im : MoM M} {iN : MoM N} {p : Addr} {S S' : List Addr} (E : EnvOk F0 H0 G σ F H) (hi : G[i]? = some (.ow M im))
    (k : ∀ p S, σ[i]? = some (some (.ref p)) → (∀ a ∈ S, F a = none ∧ H0 a = none) → M F H p S → ∃ S', Ex F F' ∧ (∀ a u, F' a = some u → F a = none → H a = none ∨ isT u = true) ∧ (∀ a, a ∉ S → a ∉ S' → H a ≠ none → H' a = H a) ∧ Ex F' H' ∧ (∀ a ∈ S', (a ∈ S ∨ H a = none) ∧ F' a = none) ∧ N F' H' p S') : EnvOk F0 H0 (G.set i (.ow N iN)) σ F' H' := by
  obtain ⟨fp, E⟩ := E
  obtain ⟨x, hx, p, e1, f1, f2⟩ := E.at_ i _ hi
  subst e1
  obtain ⟨S', ff, nw, keep, fh, own, m⟩ := k p _ hx f1 f2
  have hil : i < G.length := (List.getElem?_eq_some_iff.mp hi).1
  have out : ∀ (j : Nat) (A : Mu) (iA : MoM A) (a : Addr), j ≠ i → G[j]? = some (.ow A iA) → a ∈ fp j → a ∉ fp i ∧ a ∉ S' ∧ H a ≠ none := fun j A iA a hj h1 h2 => by
    obtain ⟨y, hy, q, _, _, ok⟩ := E.at_ j _ h1
    have h3 : a ∉ fp i := E.dj j i _ _ _ _ a hj h1 hi h2
    have h4 := iA.own ok a h2
    exact ⟨h3, fun z => (own a z).1.elim h3 h4, h4⟩
  refine ⟨fun j => if j = i then S' else fp j, ⟨E.gr.ff.trans ff, fh, fun a u e => ?_, fun a u q n => ?_⟩, by rw [List.length_set, E.len], fun j t h => ?_, fun j l A iA B iB a hjk h1 h2 h3 => ?_⟩
  · have z := E.gr.hh a u e
    have nS : a ∉ fp i := fun z => by rw [(f1 a z).2] at e; cases e
    have nS' : a ∉ S' := fun y => by
      rcases (own a y).1 with y | y
      · exact nS y
      · rw [z] at y; cases y
    rw [keep a nS nS' (by rw [z]; exact fun q => nomatch q)]; exact z
  · cases q' : F a with
    | none => exact (nw a u q q').imp (fun z => E.gr.hh.back z) id
    | some o =>
      have z := ff a o q'
      rw [q] at z; cases z
      exact E.gr.nw a u q' n
  · rcases set_get h with ⟨rfl, hl, rfl⟩ | ⟨ne, h⟩
    · refine ⟨_, hx, p, rfl, fun a ha => ?_, ?_⟩
      · rw [if_pos rfl] at ha
        refine ⟨(own a ha).2, ?_⟩
        rcases (own a ha).1 with y | y
        · exact (f1 a y).2
        · exact E.gr.hh.back y
      · rw [if_pos rfl]; exact m
    · obtain ⟨y, hy, ok⟩ := E.at_ j t h
      refine ⟨y, hy, ?_⟩
      rw [if_neg (fun e => ne e.symm)]
      cases t with
      | no => trivial
      | fz r im a => obtain ⟨v, e, q⟩ := ok; exact ⟨v, e, im.ex ff q⟩
      | bw r im a => exact ok
      | ow B iB =>
        obtain ⟨q, e, g1, g2⟩ := ok
        refine ⟨q, e, fun a ha => ⟨?_, (g1 a ha).2⟩, iB.mo ff.s (fun a ha => ?_) g2⟩
        · cases z : F' a with
          | none => rfl
          | some u =>
            rcases nw a u z (g1 a ha).1 with w | w
            · exact absurd w (iB.own g2 a ha)
            · obtain ⟨o1, o2, o3⟩ := out j _ _ a (fun e => ne e.symm) h ha
              have e1 := fh a u z
              rw [keep a o1 o2 o3] at e1
              rw [iB.ty g2 a ha u e1] at w; cases w
        · obtain ⟨o1, o2, o3⟩ := out j _ _ a (fun e => ne e.symm) h ha
          exact keep a o1 o2 o3
  · have old : ∀ (j : Nat) (A : Mu) (iA : MoM A), (G.set i (.ow N iN))[j]? = some (.ow A iA) → ∃ (A' : Mu) (iA' : MoM A'), G[j]? = some (.ow A' iA') := fun j A iA h => by
      rcases set_get h with ⟨rfl, _, _⟩ | ⟨_, h⟩
      · exact ⟨_, _, hi⟩
      · exact ⟨_, _, h⟩
    obtain ⟨A', iA', k1⟩ := old j _ _ h1
    obtain ⟨B', iB', k2⟩ := old l _ _ h2
    by_cases ej : j = i
    · rw [if_pos ej] at h3
      rw [if_neg (fun e => hjk (ej.trans e.symm))]
      exact fun z => (out l _ _ a (fun e => hjk (ej.trans e.symm)) k2 z).2.1 h3
    · rw [if_neg ej] at h3
      by_cases el : l = i
      · rw [if_pos el]
        exact (out j _ _ a ej k1 h3).2.1
      · rw [if_neg el]
        exact E.dj j l _ _ _ _ a hjk k1 k2 h3
/-- an own list changes -/
theorem EnvOk.mutL {α β : Type} {r : Rp α} {s : Rp β} {xs : List α} {ys : List β} {im : MoM (mL r xs)} {iN : MoM (mL s ys)} {i : Nat} {p : Addr} {vs : List V} (E : EnvOk F0 H0 G σ F H) (hi : G[i]? = some (.ow (mL r xs) im)) (hp : σ[i]? = some (some (.ref p))) (hl : ys.length ≤ 16777216) (m : Paired (s F) vs ys) :
    EnvOk F0 H0 (G.set i (.ow (mL s ys) iN)) σ F (upd H p (.lst vs)) := by
  have gr := E.gr
  refine E.mut (p := p) (S := []) (S' := []) hi fun q S hq hS ⟨hS', ws, h1, h2, h3⟩ => ?_
  rw [hp] at hq; cases hq
  subst hS'
  have hF := (hS p (by simp)).1
  refine ⟨[p], Ex.refl F, fun a u e n => (by rw [n] at e; cases e), fun a ha _ _ => upd_ne (fun e => ha (by rw [e]; simp)), fun a u e => by rw [upd_ne (ne_of_none e hF)]; exact gr.fh a u e, fun a ha => ⟨.inl ha, by rw [List.mem_singleton.mp ha]; exact hF⟩, rfl, vs, upd_same, hl, m⟩
/-- an own thing is frozen, with all that is its own -/
theorem EnvOk.freeze {i : Nat} {M : Mu} {im : MoM M} {s : Slot} (E : EnvOk F0 H0 G σ F H) (hi : G[i]? = some (.ow M im)) (hs : ∀ p S F', M F H p S → (∀ a ∈ S, F' a = H a) → Ex F F' → Ex F' H → SlotOk H0 F' H (some (.ref p)) [] s) (hn : ∀ M im, s ≠ .ow M im) :
    ∃ F', EnvOk F0 H0 (G.set i s) σ F' H ∧ Gr F0 H0 F' H ∧ Ex F F' := by
  obtain ⟨fp, E⟩ := E
  obtain ⟨x, hx, p, e1, f1, f2⟩ := E.at_ i _ hi
  subst e1
  have hil : i < G.length := (List.getElem?_eq_some_iff.mp hi).1
  let F' : Hp := fun a => if a ∈ fp i then H a else F a
  have at1 : ∀ a ∈ fp i, F' a = H a := fun a ha => if_pos ha
  have at2 : ∀ a, a ∉ fp i → F' a = F a := fun a ha => if_neg ha
  have ff : Ex F F' := fun a o e => by rw [at2 a (fun z => by rw [(f1 a z).1] at e; cases e)]; exact e
  have fh : Ex F' H := fun a o e => by
    by_cases ha : a ∈ fp i
    · rw [at1 a ha] at e; exact e
    · rw [at2 a ha] at e; exact E.gr.fh a o e
  have g : Gr F0 H0 F' H := ⟨E.gr.ff.trans ff, fh, E.gr.hh, fun a u q n => by
    by_cases ha : a ∈ fp i
    · exact .inl (f1 a ha).2
    · rw [at2 a ha] at q; exact E.gr.nw a u q n⟩
  refine ⟨F', ⟨fp, g, by rw [List.length_set, E.len], fun j t h => ?_, fun j k A iA B iB a hjk h1 h2 h3 => ?_⟩, g, ff⟩
  · rcases set_get h with ⟨rfl, hl, rfl⟩ | ⟨ne, h⟩
    · refine ⟨_, hx, ?_⟩
      have z := hs p _ F' f2 at1 ff fh
      cases s with
      | ow M im => exact absurd rfl (hn M im)
      | no => trivial
      | fz r im a => exact z
      | bw r im a => exact z
    · obtain ⟨y, hy, ok⟩ := E.at_ j t h
      refine ⟨y, hy, ?_⟩
      cases t with
      | no => trivial
      | fz r im a => obtain ⟨v, e, q⟩ := ok; exact ⟨v, e, im.ex ff q⟩
      | bw r im a => exact ok
      | ow B iB =>
        obtain ⟨q, e, g1, g2⟩ := ok
        exact ⟨q, e, fun a ha => ⟨by rw [at2 a (E.dj j i _ _ _ _ a (fun e => ne e.symm) h hi ha)]; exact (g1 a ha).1, (g1 a ha).2⟩, iB.mo ff.s (fun _ _ => rfl) g2⟩
  · rcases set_get h1 with ⟨_, _, e⟩ | ⟨n1, h1⟩
    · exact absurd e (hn A iA)
    · rcases set_get h2 with ⟨_, _, e⟩ | ⟨n2, h2⟩
      · exact absurd e (hn B iB)
      · exact E.dj j k _ _ _ _ a hjk h1 h2 h3
/-- forgetting -/
theorem EnvOk.drop {i : Nat} (E : EnvOk F0 H0 G σ F H) : EnvOk F0 H0 (G.set i .no) σ F H := by
  obtain ⟨fp, E⟩ := E
  refine ⟨fp, E.gr, by rw [List.length_set, E.len], fun j t h => ?_, fun j k A iA B iB q hjk h1 h2 h3 => ?_⟩
  · rcases set_get h with ⟨rfl, hl, rfl⟩ | ⟨ne, h⟩
    · exact ⟨_, by rw [List.getElem?_eq_getElem (by rw [E.len]; exact hl)], trivial⟩
    · exact E.at_ j t h
  · rcases set_get h1 with ⟨_, _, e⟩ | ⟨n1, h1⟩
    · cases e
    · rcases set_get h2 with ⟨_, _, e⟩ | ⟨n2, h2⟩
      · cases e
      · exact E.dj j k _ _ _ _ q hjk h1 h2 h3
theorem EnvOk.wipe (E : EnvOk F0 H0 G σ F H) {i : Nat} : EnvOk F0 H0 (G.set i .no) (σ.set i none) F H := by
  obtain ⟨fp, E⟩ := E
  refine ⟨fp, E.gr, by rw [List.length_set, List.length_set, E.len], fun j t h => ?_, fun j k A iA B iB q hjk h1 h2 h3 => ?_⟩
  · rcases set_get h with ⟨rfl, hl, rfl⟩ | ⟨ne, h⟩
    · exact ⟨_, by rw [List.getElem?_set_self (by rw [E.len]; exact hl)], trivial⟩
    · obtain ⟨x, hx, o⟩ := E.at_ j t h
      exact ⟨x, by rw [List.getElem?_set_ne ne]; exact hx, o⟩
  · rcases set_get h1 with ⟨_, _, e⟩ | ⟨n1, h1⟩
    · cases e
    · rcases set_get h2 with ⟨_, _, e⟩ | ⟨n2, h2⟩
      · cases e
      · exact E.dj j k _ _ _ _ q hjk h1 h2 h3
end
/-- sh: the datum is frozen; b0: it stands at the entry; bo: it stands now -/
inductive Md | sh | b0 | bo
def pk : Md → Hp → Hp → Hp → Hp
  | .sh, F, _, _ => F
  | .b0, _, H0, _ => H0
  | .bo, _, _, H => H
section
variable {F0 H0 F H F' H' : Hp}
theorem pk_mono (m : Md) (g : Gr F H F' H') : Ex (pk m F H0 H) (pk m F' H0 H') := by
  cases m with
  | sh => exact g.ff
  | b0 => exact Ex.refl _
  | bo => exact g.hh
theorem pk_now {m : Md} (g : Gr F0 H0 F H) : Ex (pk m F H0 H) H := by
  cases m with
  | sh => exact g.fh
  | b0 => exact g.hh
  | bo => exact Ex.refl _
end
section
variable (F0 H0 : Hp)
def Ed {α : Type} (t : TE) (G : List Slot) (m : Md) (r : Rp α) (a : α) : Prop := ∀ σ F H, EnvOk F0 H0 G σ F H → ∀ Q : VK, (∀ v F' H', Gr F H F' H' → r (pk m F' H0 H') v a → Q v H') → t σ H Q
def Et (t : TT) (G : List Slot) (b : Bool) : Prop := ∀ σ F H, EnvOk F0 H0 G σ F H → ∀ Q : Bool → Hp → Prop, (∀ F' H', Gr F H F' H' → Q b H') → t σ H Q
def Gk (K : L2.St → Hp → Prop) (G : List Slot) : Prop := ∀ σ F H, EnvOk F0 H0 G σ F H → K σ H
end
abbrev RA (α : Type) := Hp → Hp → Hp → List V → α → Prop
section
variable (F0 H0 : Hp)
def Ea {α : Type} (t : TA) (G : List Slot) (ra : RA α) (a : α) : Prop := ∀ σ F H, EnvOk F0 H0 G σ F H → ∀ Q : List V → Hp → Prop, (∀ vs F' H', Gr F H F' H' → ra F' H0 H' vs a → Q vs H') → t σ H Q
end
/-- the parameters of a def -/
inductive Pt : Type → Type 1
  | nil : Pt Unit
  | cons {α β : Type} (m : Md) (r : Rp α) (i : Mo r) (t : Pt β) : Pt (α × β)
def Pt.ra {α : Type} : Pt α → RA α
  | .nil => fun _ _ _ vs _ => vs = []
  | .cons m r _ t => fun F H0 H vs a => ∃ v us, vs = v :: us ∧ r (pk m F H0 H) v a.1 ∧ t.ra F H0 H us a.2
theorem Pt.mono {α : Type} : ∀ (T : Pt α) {F H F' H' H0 : Hp} {vs : List V} {a : α}, Gr F H F' H' → T.ra F H0 H vs a → T.ra F' H0 H' vs a
  | .nil, _, _, _, _, _, _, _, _, h => h
  | .cons m r i t, _, _, _, _, _, _, _, g, h => by
    obtain ⟨v, us, h1, h2, h3⟩ := h
    exact ⟨v, us, h1, i.ex (pk_mono m g) h2, t.mono g h3⟩
def Pt.count {α : Type} : Pt α → Nat
  | .nil => 0
  | .cons _ _ _ t => t.count + 1
theorem Pt.length {α : Type} : ∀ (T : Pt α) {F H H0 : Hp} {vs : List V} {a : α}, T.ra F H0 H vs a → vs.length = T.count
  | .nil, _, _, _, _, _, h => by rw [show _ = _ from h]; rfl
  | .cons m r i t, _, _, _, _, _, h => by
    obtain ⟨v, us, h1, h2, h3⟩ := h
    rw [h1, List.length_cons, t.length h3]; rfl
/-- what a parameter's slot holds at the entry -/
def pslot {α : Type} (m : Md) (r : Rp α) (i : Mo r) (a : α) : Slot := match m with
  | .sh => .fz r i a
  | _ => .bw r i a
def Pt.slots {α : Type} : Pt α → α → List Slot
  | .nil, _ => []
  | .cons m r i t, a => pslot m r i a.1 :: t.slots a.2
end LK
set_option Elab.async false
set_option linter.all false
set_option maxRecDepth 100000
set_option maxHeartbeats 4000000
set_option autoImplicit false
namespace LK
open PySem L2
theorem plen {α β : Type} {R : α → β → Prop} {xs : List α} {ys : List β} (h : Paired R xs ys) : xs.length = ys.length := h.length
theorem pget {α β : Type} {R : α → β → Prop} : ∀ {xs : List α} {ys : List β} {i : Nat} {y : β}, Paired R xs ys → ys[i]? = some y → ∃ x, xs[i]? = some x ∧ R x y
  | _, _, i, y, .nil, e => by simp at e
  | _, _, 0, y, .cons h _, e => by simp at e; subst e; exact ⟨_, rfl, h⟩
  | _, _, i + 1, y, .cons _ t, e => by
    obtain ⟨x, h1, h2⟩ := pget (i := i) t (by simpa using e)
    exact ⟨x, by simpa using h1, h2⟩
theorem pgetL {α β : Type} {R : α → β → Prop} : ∀ {xs : List α} {ys : List β} {i : Nat} {x : α}, Paired R xs ys → xs[i]? = some x → ∃ y, ys[i]? = some y ∧ R x y
  | _, _, i, y, .nil, e => by simp at e
  | _, _, 0, y, .cons h _, e => by simp at e; subst e; exact ⟨_, rfl, h⟩
  | _, _, i + 1, y, .cons _ t, e => by
    obtain ⟨x, h1, h2⟩ := pgetL (i := i) t (by simpa using e)
    exact ⟨x, by simpa using h1, h2⟩
theorem papp {α β : Type} {R : α → β → Prop} {xs xs' : List α} {ys ys' : List β} (h : Paired R xs ys) (h' : Paired R xs' ys') : Paired R (xs ++ xs') (ys ++ ys') := by
  induction h with
  | nil => exact h'
  | cons a _ ih => exact .cons a ih
theorem ptake {α β : Type} {R : α → β → Prop} : ∀ (n : Nat) {xs : List α} {ys : List β}, Paired R xs ys → Paired R (xs.take n) (ys.take n)
  | 0, _, _, _ => .nil
  | _ + 1, _, _, .nil => .nil
  | n + 1, _, _, .cons a t => .cons a (ptake n t)
theorem pdrop {α β : Type} {R : α → β → Prop} : ∀ (n : Nat) {xs : List α} {ys : List β}, Paired R xs ys → Paired R (xs.drop n) (ys.drop n)
  | 0, _, _, h => h
  | _ + 1, _, _, .nil => .nil
  | n + 1, _, _, .cons _ t => pdrop n t
theorem sz_le {n : Nat} (h : n ≤ 16777216) : n ≤ sizeLine := by rw [sizeLine_eq]; exact h
theorem sz_lt {n : Nat} (h : n < 16777216) : n < sizeLine := by rw [sizeLine_eq]; exact h
def ixD {α : Type} [Inhabited α] (xs : List α) (i : Int) : α := (atI xs i).getD default
def ixOk (n : Nat) (i : Int) : Prop := -(n : Int) ≤ i ∧ i < n
theorem ixN_some {n : Nat} {i : Int} (h : ixOk n i) : ∃ j, ixN n i = some j ∧ j < n := by
  unfold ixN
  obtain ⟨h1, h2⟩ := h
  by_cases h0 : 0 ≤ i
  · rw [if_pos h0, if_pos h2]; exact ⟨_, rfl, by omega⟩
  · rw [if_neg h0, if_pos h1]; exact ⟨_, rfl, by omega⟩
theorem atI_ok {α : Type} [Inhabited α] {xs : List α} {i : Int} (h : ixOk xs.length i) : atI xs i = some (ixD xs i) := by
  obtain ⟨j, e, hj⟩ := ixN_some h
  unfold ixD atI
  rw [e]
  show xs[j]? = some ((xs[j]?).getD default)
  rw [List.getElem?_eq_getElem hj]; rfl
theorem pat {α β : Type} {R : α → β → Prop} {xs : List α} {ys : List β} {i : Int} {y : β} (p : Paired R xs ys) (h : atI ys i = some y) : ∃ x, atI xs i = some x ∧ R x y := by
  unfold atI at h ⊢
  rw [plen p]
  cases e : ixN ys.length i with
  | none => rw [e] at h; cases h
  | some j => rw [e] at h; exact pget p h
theorem ixD_mem {α : Type} [Inhabited α] {xs : List α} {j : Int} (h : ixOk xs.length j) : ixD xs j ∈ xs := by
  have e := atI_ok h
  unfold atI at e
  cases q : ixN xs.length j with
  | none => rw [q] at e; cases e
  | some n => rw [q] at e; exact List.mem_of_getElem? e
theorem ixD_nat {α : Type} [Inhabited α] (xs : List α) (i : Nat) : ixD xs (i : Int) = xs.getD i default := by
  unfold ixD atI ixN
  rw [if_pos (by omega)]
  by_cases h : (i : Int) < xs.length
  · rw [if_pos h]; simp [List.getD_eq_getElem?_getD]
  · rw [if_neg h]; simp [List.getD_eq_getElem?_getD]; rw [List.getElem?_eq_none (by omega)]; rfl
/-- the part of a list -/
def cutL {α : Type} (xs : List α) (lo hi : Option Int) : List α := (xs.drop (HT.sIx xs.length 0 lo)).take (HT.sIx xs.length xs.length hi - HT.sIx xs.length 0 lo)
theorem pcut {α β : Type} {R : α → β → Prop} {xs : List α} {ys : List β} (lo hi : Option Int) (p : Paired R xs ys) : Paired R (cutL xs lo hi) (cutL ys lo hi) := by
  unfold cutL
  rw [plen p]
  exact ptake _ (pdrop _ p)
theorem cutL_mem {α : Type} {xs : List α} {lo hi : Option Int} {x : α} (h : x ∈ cutL xs lo hi) : x ∈ xs := List.mem_of_mem_drop (List.mem_of_mem_take h)
theorem cutL_le {α : Type} (xs : List α) (lo hi : Option Int) : (cutL xs lo hi).length ≤ xs.length := by
  unfold cutL
  rw [List.length_take, List.length_drop]
  omega
section
variable {F0 H0 : Hp} {G : List Slot} {m m1 m2 : Md} {ta tb tc te : TE} {t u : TT} {K : PySem.W.Frag}
def En {α : Type} (F0 H0 : Hp) (t : TE) (G : List Slot) (r : Rp α) (xs : List α) : Prop := ∀ σ F H, EnvOk F0 H0 G σ F H → ∀ Q : VK, (∀ p vs F' H', Gr F H F' H' → H p = none → F' p = none → H' p = some (.lst vs) → xs.length ≤ 16777216 → Paired (r F') vs xs → Q (.ref p) H') → t σ H Q
theorem Ed.bo {α : Type} {r : Rp α} [Mo r] {a : α} (h : Ed F0 H0 te G m r a) : Ed F0 H0 te G .bo r a := fun σ F H E Q q =>
  h σ F H E Q fun v F' H' g x => q v F' H' g (mox (pk_now (E.gr.trans g)) x)
theorem Ed.fl {α : Type} {r : Rp α} [Fl r] {a : α} (h : Ed F0 H0 te G m1 r a) : Ed F0 H0 te G m r a := fun σ F H E Q q =>
  h σ F H E Q fun v F' H' g x => q v F' H' g (Fl.fl x)
theorem Ed.cast {α : Type} {r : Rp α} {a b : α} (h : Ed F0 H0 te G m r a) (e : a = b) : Ed F0 H0 te G m r b := e ▸ h
theorem Et.cast {a b : Bool} (h : Et F0 H0 t G a) (e : a = b) : Et F0 H0 t G b := e ▸ h
theorem En.cast {α : Type} {r : Rp α} {a b : List α} (h : En F0 H0 te G r a) (e : a = b) : En F0 H0 te G r b := e ▸ h
theorem ed_v {α : Type} {r : Rp α} {im : Mo r} {a : α} {i : Nat} (h : G[i]? = some (.fz r im a)) : Ed F0 H0 (tVar i) G .sh r a := fun σ F H E Q q => by
  obtain ⟨v, hx, ok⟩ := E.fz_at h
  exact ⟨v, hx, q v F H (Gr.refl E.gr.fh) ok⟩
theorem ed_b {α : Type} {r : Rp α} {im : Mo r} {a : α} {i : Nat} (h : G[i]? = some (.bw r im a)) : Ed F0 H0 (tVar i) G .b0 r a := fun σ F H E Q q => by
  obtain ⟨v, hx, ok⟩ := E.bw_at h
  exact ⟨v, hx, q v F H (Gr.refl E.gr.fh) ok⟩
theorem ed_c {α : Type} {r : Rp α} {v : V} {a : α} (h : ∀ F, r F v a) : Ed F0 H0 (tC v) G m r a := fun σ F H E Q q => q v F H (Gr.refl E.gr.fh) (h _)
theorem ed_int {i : Int} : Ed F0 H0 (tC (.int i)) G m rInt i := ed_c fun _ => rfl
theorem ed_bl {b : Bool} : Ed F0 H0 (tC (.bl b)) G m rBl b := ed_c fun _ => rfl
theorem ed_tx {x : Str} {a : List Nat} (h : x = ⟨a.toArray⟩) (hl : a.length ≤ 16777216) (hc : (a.all fun c => decide (c < 1114112)) = true := by decide) : Ed F0 H0 (tC (.str x)) G m rTx a := ed_c fun _ => ⟨by rw [h], hl, fun c h => of_decide_eq_true (List.all_eq_true.mp hc c h)⟩
theorem ed_none {α : Type} {r : Rp α} : Ed F0 H0 (tC .non) G m (rOpt r) none := ed_c fun _ => rfl
theorem ed_some {α : Type} {r : Rp α} {a : α} (h : Ed F0 H0 te G m r a) : Ed F0 H0 te G m (rOpt r) (some a) := h
theorem ed_bin {α β γ : Type} {rx : Rp α} {ry : Rp β} {rz : Rp γ} [Mo rx] {x : α} {y : β} {z : γ} {r : R2} (hx : Ed F0 H0 ta G m1 rx x) (hy : Ed F0 H0 tb G m2 ry y)
    (hr : ∀ v w F H, Gr F0 H0 F H → rx (pk m1 F H0 H) v x → ry (pk m2 F H0 H) w y → ∀ Q : VK, (∀ u F' H', Gr F H F' H' → rz (pk m F' H0 H') u z → Q u H') → r v w H Q) : Ed F0 H0 (tOp r ta tb) G m rz z := fun σ F H E Q q =>
  hx σ F H E _ fun v F1 H1 g1 h1 => hy σ F1 H1 (E.gro g1) _ fun w F2 H2 g2 h2 =>
    hr v w F2 H2 (E.gr.trans (g1.trans g2)) (mox (pk_mono m1 g2) h1) h2 Q fun u F3 H3 g3 h3 => q u F3 H3 ((g1.trans g2).trans g3) h3
theorem ed_un {α β : Type} {rx : Rp α} {rz : Rp β} {x : α} {z : β} {r : V → Hp → VK → Prop} (hx : Ed F0 H0 ta G m1 rx x)
    (hr : ∀ v F H, Gr F0 H0 F H → rx (pk m1 F H0 H) v x → ∀ Q : VK, (∀ u F' H', Gr F H F' H' → rz (pk m F' H0 H') u z → Q u H') → r v H Q) : Ed F0 H0 (fun σ H Q => ta σ H fun x H1 => r x H1 Q) G m rz z := fun σ F H E Q q =>
  hx σ F H E _ fun v F1 H1 g1 h1 => hr v F1 H1 (E.gr.trans g1) h1 Q fun u F3 H3 g3 h3 => q u F3 H3 (g1.trans g3) h3
theorem ed_iop {γ : Type} {rz : Rp γ} {g : Int → Int → V} {x y : Int} {z : γ} (hx : Ed F0 H0 ta G m1 rInt x) (hy : Ed F0 H0 tb G m2 rInt y) (hz : ∀ F, rz F (g x y) z) : Ed F0 H0 (tOp (rI0 g) ta tb) G m rz z :=
  ed_bin hx hy fun v w F H g0 hv hw Q q => ⟨x, y, hv, hw, q _ F H (Gr.refl g0.fh) (hz _)⟩
theorem ed_iopC {γ : Type} {rz : Rp γ} {C : Int → Int → Prop} {g : Int → Int → V} {x y : Int} {z : γ} (hx : Ed F0 H0 ta G m1 rInt x) (hy : Ed F0 H0 tb G m2 rInt y) (hc : C x y) (hz : ∀ F, rz F (g x y) z) : Ed F0 H0 (tOp (rI C g) ta tb) G m rz z :=
  ed_bin hx hy fun v w F H g0 hv hw Q q => ⟨x, y, hv, hw, hc, q _ F H (Gr.refl g0.fh) (hz _)⟩
theorem ed_add {x y : Int} (hx : Ed F0 H0 ta G m1 rInt x) (hy : Ed F0 H0 tb G m2 rInt y) : Ed F0 H0 (tOp (rI0 fun i j => .int (i + j)) ta tb) G m rInt (x + y) := ed_iop hx hy fun _ => rfl
theorem ed_sub {x y : Int} (hx : Ed F0 H0 ta G m1 rInt x) (hy : Ed F0 H0 tb G m2 rInt y) : Ed F0 H0 (tOp (rI0 fun i j => .int (i - j)) ta tb) G m rInt (x - y) := ed_iop hx hy fun _ => rfl
theorem ed_mul {x y : Int} (hx : Ed F0 H0 ta G m1 rInt x) (hy : Ed F0 H0 tb G m2 rInt y) (hc : (-18446744073709551616 < x ∧ x < 18446744073709551616) ∨ (-18446744073709551616 < y ∧ y < 18446744073709551616)) : Ed F0 H0 (tOp (rI CMul fun i j => .int (i * j)) ta tb) G m rInt (x * y) := ed_iopC hx hy hc fun _ => rfl
theorem ed_mod {x y : Int} (hx : Ed F0 H0 ta G m1 rInt x) (hy : Ed F0 H0 tb G m2 rInt y) (hc : 0 < y) : Ed F0 H0 (tOp (rI (fun _ j => 0 < j) fun i j => .int (i % j)) ta tb) G m rInt (x % y) := ed_iopC hx hy hc fun _ => rfl
theorem ed_div {x y : Int} (hx : Ed F0 H0 ta G m1 rInt x) (hy : Ed F0 H0 tb G m2 rInt y) (hc : 0 < y ∧ y < 1073741824) : Ed F0 H0 (tOp (rI CDiv fun i j => .int (i / j)) ta tb) G m rInt (x / y) := ed_iopC hx hy hc fun _ => rfl
theorem ed_pow {x y : Int} (hx : Ed F0 H0 ta G m1 rInt x) (hy : Ed F0 H0 tb G m2 rInt y) (hc : 0 ≤ y ∧ y ≤ 1000000 ∧ x.natAbs < 18446744073709551616) : Ed F0 H0 (tOp (rI CPow fun i j => .int (i ^ j.toNat)) ta tb) G m rInt (x ^ y.toNat) := ed_iopC hx hy hc fun _ => rfl
theorem ed_lt {x y : Int} (hx : Ed F0 H0 ta G m1 rInt x) (hy : Ed F0 H0 tb G m2 rInt y) : Ed F0 H0 (tOp (rI0 fun i j => .bl (decide (i < j))) ta tb) G m rBl (decide (x < y)) := ed_iop hx hy fun _ => rfl
theorem ed_gt {x y : Int} (hx : Ed F0 H0 ta G m1 rInt x) (hy : Ed F0 H0 tb G m2 rInt y) : Ed F0 H0 (tOp (rI0 fun i j => .bl (decide (j < i))) ta tb) G m rBl (decide (y < x)) := ed_iop hx hy fun _ => rfl
theorem ed_ge {x y : Int} (hx : Ed F0 H0 ta G m1 rInt x) (hy : Ed F0 H0 tb G m2 rInt y) : Ed F0 H0 (tOp (rI0 fun i j => .bl (decide (j ≤ i))) ta tb) G m rBl (decide (y ≤ x)) := ed_iop hx hy fun _ => rfl
/-- what == compares by value -/
class Sc {α : Type} (r : Rp α) : Prop where
  sc : ∀ {F F' : Hp} {v w : V} {a b : α}, r F v a → r F' w b → scal v w = true ∧ (v = w ↔ a = b)
instance : Sc rInt := ⟨fun {F F' v w a b} h h' => by rw [show v = _ from h, show w = _ from h']; exact ⟨rfl, by simp⟩⟩
instance : Sc rBl := ⟨fun {F F' v w a b} h h' => by rw [show v = _ from h, show w = _ from h']; exact ⟨rfl, by simp⟩⟩
instance : Sc rTx := ⟨fun {F F' v w a b} h h' => by rw [h.1, h'.1]; exact ⟨rfl, by simp⟩⟩
theorem ed_eq {α : Type} {r : Rp α} [DecidableEq α] [Mo r] [Sc r] {x y : α} (hx : Ed F0 H0 ta G m1 r x) (hy : Ed F0 H0 tb G m2 r y) : Ed F0 H0 (tOp rEq ta tb) G m rBl (decide (x = y)) :=
  ed_bin hx hy fun v w F H g0 hv hw Q q => by
    obtain ⟨h1, h2⟩ := Sc.sc hv hw
    exact ⟨h1, q _ F H (Gr.refl g0.fh) (by show V.bl _ = V.bl _; rw [decide_eq_decide.mpr h2])⟩
/-- an optional one: is None -/
theorem ed_isN {α : Type} {r : Rp α} [Mo r] [Nn r] {x : Option α} (hx : Ed F0 H0 ta G m1 (rOpt r) x) : Ed F0 H0 (tIsN ta) G m rBl x.isNone :=
  ed_un (r := fun x H Q => Q (.bl (decide (x = .non))) H) hx fun v F H g0 hv Q q => q _ F H (Gr.refl g0.fh) (by
    cases x with
    | none => show V.bl _ = V.bl _; rw [decide_eq_true (show v = .non from hv)]; rfl
    | some a => show V.bl _ = V.bl _; rw [decide_eq_false (Nn.nn (r := r) (a := a) hv)]; rfl)
theorem ed_notN {α : Type} {r : Rp α} [Mo r] [Nn r] {x : Option α} (hx : Ed F0 H0 ta G m1 (rOpt r) x) : Ed F0 H0 (tNotN ta) G m rBl x.isSome :=
  ed_un (r := fun x H Q => Q (.bl (!decide (x = .non))) H) hx fun v F H g0 hv Q q => q _ F H (Gr.refl g0.fh) (by
    cases x with
    | none => show V.bl _ = V.bl _; rw [decide_eq_true (show v = .non from hv)]; rfl
    | some a => show V.bl _ = V.bl _; rw [decide_eq_false (Nn.nn (r := r) (a := a) hv)]; rfl)
theorem tx_len (a : List Nat) : (⟨a.toArray⟩ : Str).length = a.length := by simp [Str.length]
theorem ed_ixT {x : List Nat} {i : Int} (hx : Ed F0 H0 ta G m1 rTx x) (hy : Ed F0 H0 tb G m2 rInt i) (hi : ixOk x.length i) : Ed F0 H0 (tOp rIxS ta tb) G m rTx [ixD x i] :=
  ed_bin hx hy fun v w F H g0 hv hw Q q => ⟨_, i, ixD x i, hv.1, hw, by rw [tx_len]; exact sz_le hv.2.1, by simpa using atI_ok hi, q _ F H (Gr.refl g0.fh) ⟨rfl, by simp, fun c hc => by rw [List.mem_singleton.mp hc]; exact hv.2.2 _ (ixD_mem hi)⟩⟩
abbrev rInC : R2 := fun x y H Q => ∃ (c : Nat) (z : Str), x = .str ⟨#[c]⟩ ∧ y = .str z ∧ Q (.bl (decide (c ∈ z.cps.toList))) H
theorem ed_inT {c : Nat} {y : List Nat} (hx : Ed F0 H0 ta G m1 rTx [c]) (hy : Ed F0 H0 tb G m2 rTx y) : Ed F0 H0 (tOp rInC ta tb) G m rBl (decide (c ∈ y)) :=
  ed_bin hx hy fun v w F H g0 hv hw Q q => ⟨c, _, hv.1, hw.1, q _ F H (Gr.refl g0.fh) (by simp [rBl])⟩
theorem ed_ixL {α : Type} {r : Rp α} [Mo r] [Inhabited α] {xs : List α} {i : Int} (hx : Ed F0 H0 ta G m (rLst r) xs) (hy : Ed F0 H0 tb G m2 rInt i) (hi : ixOk xs.length i) : Ed F0 H0 (tOp (rIxL K) ta tb) G m r (ixD xs i) :=
  ed_bin hx hy fun v w F H g0 hv hw Q q => by
    obtain ⟨p, vs, rfl, h1, h2, h3⟩ := hv
    obtain ⟨x, e, rx⟩ := pat h3 (atI_ok hi)
    exact ⟨p, vs, i, x, rfl, hw, SqL.of (pk_now g0 _ _ h1), e, q _ F H (Gr.refl g0.fh) rx⟩
theorem ed_c1 {α β : Type} {rx : Rp α} {rz : Rp β} {x : α} {z : β} {r : List V → Hp → VK → Prop} (hx : Ed F0 H0 ta G m1 rx x)
    (hr : ∀ v F H, Gr F0 H0 F H → rx (pk m1 F H0 H) v x → ∀ Q : VK, (∀ u F' H', Gr F H F' H' → rz (pk m F' H0 H') u z → Q u H') → r [v] H Q) : Ed F0 H0 (tCB r (tCons ta tNil)) G m rz z := fun σ F H E Q q =>
  hx σ F H E _ fun v F1 H1 g1 h1 => hr v F1 H1 (E.gr.trans g1) h1 Q fun u F3 H3 g3 h3 => q u F3 H3 (g1.trans g3) h3
abbrev rLenQ (K : PySem.W.Frag) : List V → Hp → VK → Prop := fun xs H Q => ∃ p ys, xs = [.ref p] ∧ (SqL K H p ys ∨ SqT K H p ys) ∧ Q (.int ys.length) H
abbrev rLenT : List V → Hp → VK → Prop := fun xs H Q => ∃ z, xs = [.str z] ∧ z.length ≤ sizeLine ∧ Q (.int z.length) H
theorem ed_lenL {α : Type} {r : Rp α} {xs : List α} (hx : Ed F0 H0 ta G m1 (rLst r) xs) : Ed F0 H0 (tCB (rLenQ K) (tCons ta tNil)) G m rInt (xs.length : Int) :=
  ed_c1 hx fun v F H g0 hv Q q => by
    obtain ⟨p, vs, rfl, h1, h2, h3⟩ := hv
    exact ⟨p, vs, rfl, .inl (SqL.of (pk_now g0 _ _ h1)), q _ F H (Gr.refl g0.fh) (by rw [plen h3]; rfl)⟩
theorem ed_lenU {α : Type} {r : Rp α} {xs : List α} (hx : Ed F0 H0 ta G m1 (rTup r) xs) : Ed F0 H0 (tCB (rLenQ K) (tCons ta tNil)) G m rInt (xs.length : Int) :=
  ed_c1 hx fun v F H g0 hv Q q => by
    obtain ⟨p, vs, rfl, h1, h2, h3⟩ := hv
    exact ⟨p, vs, rfl, .inr (SqT.of (pk_now g0 _ _ h1)), q _ F H (Gr.refl g0.fh) (by rw [plen h3]; rfl)⟩
theorem ed_lenT {x : List Nat} (hx : Ed F0 H0 ta G m1 rTx x) : Ed F0 H0 (tCB rLenT (tCons ta tNil)) G m rInt (x.length : Int) :=
  ed_c1 hx fun v F H g0 hv Q q => ⟨⟨x.toArray⟩, by rw [hv.1], by rw [tx_len]; exact sz_le hv.2.1, q _ F H (Gr.refl g0.fh) (by rw [tx_len]; rfl)⟩
class Ft {α : Type} (r : Rp α) : Prop where
  ft : ∀ {F : Hp} {v : V} {a : α}, r F v a → flatV v = true
  eq : ∀ {F F' : Hp} {v w : V} {a b : α}, r F v a → r F' w b → (eqV v w = true ↔ a = b)
instance : Ft rInt := ⟨fun {F v a} h => by rw [show v = _ from h]; rfl, fun {F F' v w a b} h h' => by rw [show v = _ from h, show w = _ from h']; simp [eqV]⟩
instance : Ft rTx := ⟨fun {F v a} h => by rw [h.1]; rfl, fun {F F' v w a b} h h' => by rw [h.1, h'.1]; simp [eqV]⟩
theorem ft_all {α : Type} {r : Rp α} [Ft r] {F : Hp} : ∀ {vs : List V} {xs : List α}, Paired (r F) vs xs → vs.all flatV = true
  | _, _, .nil => rfl
  | _, _, .cons h t => by rw [List.all_cons, Ft.ft h, ft_all t]; rfl
theorem ft_in {α : Type} {r : Rp α} [Ft r] [DecidableEq α] {F F' : Hp} {v : V} {a : α} (hv : r F' v a) : ∀ {vs : List V} {xs : List α}, Paired (r F) vs xs → inV v vs = decide (a ∈ xs)
  | _, _, .nil => by simp [inV]
  | w :: vs, x :: xs, .cons h t => by
    have ih := ft_in hv t
    unfold inV at ih ⊢
    rw [List.any_cons, ih]
    have e : eqV w v = decide (x = a) := by
      by_cases z : x = a
      · rw [decide_eq_true z]; exact (Ft.eq h hv).mpr z
      · rw [decide_eq_false z]
        cases q : eqV w v with
        | false => rfl
        | true => exact absurd ((Ft.eq h hv).mp q) z
    rw [e]
    by_cases z : x = a
    · subst z; simp
    · rw [decide_eq_false z, Bool.false_or]
      simp only [List.mem_cons, decide_eq_decide]
      exact ⟨fun q => .inr q, fun q => q.resolve_left fun y => z y.symm⟩
theorem ed_inL {α : Type} {r : Rp α} [Ft r] [Mo r] [DecidableEq α] {a : α} {xs : List α} (hx : Ed F0 H0 ta G m1 r a) (hy : Ed F0 H0 tb G m2 (rLst r) xs) : Ed F0 H0 (tOp (rIn K false) ta tb) G m rBl (decide (a ∈ xs)) :=
  ed_bin hx hy fun v w F H g0 hv hw Q q => by
    obtain ⟨p, vs, rfl, h1, h2, h3⟩ := hw
    exact ⟨p, vs, rfl, .inl (SqL.of (pk_now g0 _ _ h1)), Ft.ft hv, ft_all h3, q _ F H (Gr.refl g0.fh) (by rw [ft_in hv h3]; rfl)⟩
theorem ed_niL {α : Type} {r : Rp α} [Ft r] [Mo r] [DecidableEq α] {a : α} {xs : List α} (hx : Ed F0 H0 ta G m1 r a) (hy : Ed F0 H0 tb G m2 (rLst r) xs) : Ed F0 H0 (tOp (rIn K true) ta tb) G m rBl (!decide (a ∈ xs)) :=
  ed_bin hx hy fun v w F H g0 hv hw Q q => by
    obtain ⟨p, vs, rfl, h1, h2, h3⟩ := hw
    exact ⟨p, vs, rfl, .inl (SqL.of (pk_now g0 _ _ h1)), Ft.ft hv, ft_all h3, q _ F H (Gr.refl g0.fh) (by rw [ft_in hv h3]; rfl)⟩
theorem ed_inU {α : Type} {r : Rp α} [Ft r] [Mo r] [DecidableEq α] {a : α} {xs : List α} (hx : Ed F0 H0 ta G m1 r a) (hy : Ed F0 H0 tb G m2 (rTup r) xs) : Ed F0 H0 (tOp (rIn K false) ta tb) G m rBl (decide (a ∈ xs)) :=
  ed_bin hx hy fun v w F H g0 hv hw Q q => by
    obtain ⟨p, vs, rfl, h1, h2, h3⟩ := hw
    exact ⟨p, vs, rfl, .inr (SqT.of (pk_now g0 _ _ h1)), Ft.ft hv, ft_all h3, q _ F H (Gr.refl g0.fh) (by rw [ft_in hv h3]; rfl)⟩
theorem et_B {b : Bool} (h : Ed F0 H0 te G m rBl b) : Et F0 H0 (tB te) G b := fun σ F H E Q q => h σ F H E _ fun v F' H' g hv => ⟨b, hv, q F' H' g⟩
theorem et_not {a : Bool} (h1 : Et F0 H0 t G a) : Et F0 H0 (tNot t) G (!a) := fun σ F H E Q q => h1 σ F H E _ fun F1 H1 g1 => q F1 H1 g1
abbrev tTr (K : PySem.W.Frag) (ta : TE) : TT := fun σ H Q => ta σ H fun x H' => ∃ k, TruV K x H' k ∧ Q k H'
theorem et_trL {α : Type} {r : Rp α} {xs : List α} (h : Ed F0 H0 te G m (rLst r) xs) : Et F0 H0 (tTr K te) G (!xs.isEmpty) := fun σ F H E Q q => h σ F H E _ fun v F' H' g hv => by
  obtain ⟨p, vs, rfl, h1, h2, h3⟩ := hv
  refine ⟨_, .inl ⟨vs, SqL.of (pk_now (E.gr.trans g) _ _ h1), rfl⟩, ?_⟩
  have e : vs.isEmpty = xs.isEmpty := by cases h3 <;> rfl
  rw [e]; exact q F' H' g
theorem ed_andV {a b : Bool} (h1 : Ed F0 H0 ta G m1 rBl a) (h2 : a = true → Ed F0 H0 tb G m2 rBl b) : Ed F0 H0 (tAndV ta tb) G m rBl (a && b) := fun σ F H E Q q => h1 σ F H E _ fun v F1 H1 g1 hv => ⟨a, hv, by
  cases a with
  | true => exact h2 rfl σ F1 H1 (E.gro g1) Q fun w F2 H2 g2 hw => q w F2 H2 (g1.trans g2) hw
  | false => exact q _ F1 H1 g1 rfl⟩
theorem ed_orV {a b : Bool} (h1 : Ed F0 H0 ta G m1 rBl a) (h2 : a = false → Ed F0 H0 tb G m2 rBl b) : Ed F0 H0 (tOrV ta tb) G m rBl (a || b) := fun σ F H E Q q => h1 σ F H E _ fun v F1 H1 g1 hv => ⟨a, hv, by
  cases a with
  | true => exact q _ F1 H1 g1 rfl
  | false => exact h2 rfl σ F1 H1 (E.gro g1) Q fun w F2 H2 g2 hw => q w F2 H2 (g1.trans g2) hw⟩
theorem ed_notV {a : Bool} (h1 : Ed F0 H0 ta G m1 rBl a) : Ed F0 H0 (tNotV ta) G m rBl (!a) := fun σ F H E Q q => h1 σ F H E _ fun v F1 H1 g1 hv => ⟨a, hv, q _ F1 H1 g1 rfl⟩
theorem ed_if {α : Type} {r : Rp α} {a b : α} {c : Bool} (h : Et F0 H0 t G c) (h1 : c = true → Ed F0 H0 ta G m r a) (h2 : c = false → Ed F0 H0 tb G m r b) : Ed F0 H0 (tIf t ta tb) G m r (if c = true then a else b) := fun σ F H E Q q => h σ F H E _ fun F1 H1 g1 => by
  cases c with
  | true => exact h1 rfl σ F1 H1 (E.gro g1) Q fun w F2 H2 g2 hw => q w F2 H2 (g1.trans g2) hw
  | false => exact h2 rfl σ F1 H1 (E.gro g1) Q fun w F2 H2 g2 hw => q w F2 H2 (g1.trans g2) hw
theorem ea_nil : Ea F0 H0 tNil G Pt.nil.ra () := fun σ F H E Q q => q [] F H (Gr.refl E.gr.fh) rfl
theorem ea_cons {α β : Type} {r : Rp α} [im : Mo r] {T : Pt β} {tr : TA} {a : α} {b : β} (h : Ed F0 H0 ta G m r a) (hr : Ea F0 H0 tr G T.ra b) : Ea F0 H0 (tCons ta tr) G (Pt.cons m r im T).ra (a, b) := fun σ F H E Q q =>
  h σ F H E _ fun v F1 H1 g1 h1 => hr σ F1 H1 (E.gro g1) _ fun vs F2 H2 g2 h2 => q _ F2 H2 (g1.trans g2) ⟨v, vs, rfl, im.ex (pk_mono m g2) h1, h2⟩
def El {α : Type} (F0 H0 : Hp) (t : TA) (G : List Slot) (r : Rp α) (xs : List α) : Prop := ∀ σ F H, EnvOk F0 H0 G σ F H → ∀ Q : List V → Hp → Prop, (∀ vs F' H', Gr F H F' H' → Paired (r F') vs xs → Q vs H') → t σ H Q
theorem el_nil {α : Type} {r : Rp α} : El F0 H0 tNil G r [] := fun σ F H E Q q => q [] F H (Gr.refl E.gr.fh) .nil
theorem el_cons {α : Type} {r : Rp α} [Mo r] {tr : TA} {a : α} {xs : List α} (h : Ed F0 H0 ta G .sh r a) (hr : El F0 H0 tr G r xs) : El F0 H0 (tCons ta tr) G r (a :: xs) := fun σ F H E Q q =>
  h σ F H E _ fun v F1 H1 g1 h1 => hr σ F1 H1 (E.gro g1) _ fun vs F2 H2 g2 h2 => q _ F2 H2 (g1.trans g2) (.cons (mox g2.ff h1) h2)
theorem en_lst {α : Type} {r : Rp α} [Mo r] {ts : TA} {xs : List α} (h : El F0 H0 ts G r xs) (hl : xs.length ≤ 16777216) : En F0 H0 (tLst ts) G r xs := fun σ F H E Q q =>
  h σ F H E _ fun vs F1 H1 g1 h1 => ⟨by rw [plen h1]; exact sz_le hl, fun p hp => q p vs F1 _ (g1.trans (Gr.wild g1.fh hp)) (g1.hh.back hp) (g1.fh.back hp) upd_same hl h1⟩
theorem ed_tup {α : Type} {r : Rp α} [Mo r] {ts : TA} {xs : List α} (h : El F0 H0 ts G r xs) (hl : xs.length ≤ 16777216) : Ed F0 H0 (tTup ts) G .sh (rTup r) xs := fun σ F H E Q q =>
  h σ F H E _ fun vs F1 H1 g1 h1 => ⟨by rw [plen h1]; exact sz_le hl, fun p hp => q _ _ _ (g1.trans (Gr.new g1.fh hp)) ⟨p, vs, rfl, upd_same, hl, pmap (fun _ _ z => mox (Ex.new (g1.fh.back hp)) z) h1⟩⟩
abbrev rTupleQ (K : PySem.W.Frag) : List V → Hp → VK → Prop := fun xs H Q => ∃ p ys, xs = [.ref p] ∧ ((SqL K H p ys ∧ ∀ l, H l = none → Q (.ref l) (upd H l (.tup ys))) ∨ (SqT K H p ys ∧ Q (.ref p) H))
/-- what may be kept: frozen, or flat -/
class Kp {α : Type} (m : Md) (r : Rp α) : Prop where
  kp : ∀ {F0 H0 F H : Hp} {v : V} {a : α}, Gr F0 H0 F H → r (pk m F H0 H) v a → r F v a
instance {α : Type} (r : Rp α) : Kp .sh r := ⟨fun _ h => h⟩
instance {α : Type} (m : Md) (r : Rp α) [Fl r] : Kp m r := ⟨fun _ h => Fl.fl h⟩
theorem ed_tupL {α : Type} {r : Rp α} [Mo r] [Kp m1 r] {xs : List α} (hx : Ed F0 H0 ta G m1 (rLst r) xs) : Ed F0 H0 (tCB (rTupleQ K) (tCons ta tNil)) G .sh (rTup r) xs :=
  ed_c1 hx fun v F H g0 hv Q q => by
    obtain ⟨p, vs, rfl, h1, h2, h3⟩ := hv
    exact ⟨p, vs, rfl, .inl ⟨SqL.of (pk_now g0 _ _ h1), fun l hl => q _ _ _ (Gr.new g0.fh hl) ⟨l, vs, rfl, upd_same, h2, pmap (fun _ _ z => mox (Ex.new (g0.fh.back hl)) (Kp.kp (r := r) g0 z)) h3⟩⟩⟩
def Eo (F0 H0 : Hp) (t : TO) (G : List Slot) (o : Option Int) : Prop := ∀ σ F H, EnvOk F0 H0 G σ F H → ∀ Q : Option Int → Hp → Prop, (∀ F' H', Gr F H F' H' → Q o H') → t σ H Q
theorem eo_none : Eo F0 H0 tNoPart G none := fun σ F H E Q q => q F H (Gr.refl E.gr.fh)
theorem eo_some {i : Int} (h : Ed F0 H0 te G m rInt i) : Eo F0 H0 (tPart te) G (some i) := fun σ F H E Q q => h σ F H E _ fun v F' H' g hv => ⟨i, hv, q F' H' g⟩
theorem en_slL {α : Type} {r : Rp α} [Mo r] [Kp m1 r] {xs : List α} {lo hi : Option Int} {tl th : TO} (hx : Ed F0 H0 ta G m1 (rLst r) xs) (hl : Eo F0 H0 tl G lo) (hh : Eo F0 H0 th G hi) : En F0 H0 (tSl (rSlL K) ta tl th) G r (cutL xs lo hi) := fun σ F H E Q q =>
  hx σ F H E _ fun v F1 H1 g1 h1 => hl σ F1 H1 (E.gro g1) _ fun F2 H2 g2 => hh σ F2 H2 ((E.gro g1).gro g2) _ fun F3 H3 g3 => by
    have g := (g1.trans g2).trans g3
    have g0 := E.gr.trans g
    obtain ⟨p, vs, rfl, e1, e2, e3⟩ := mox (r := rLst r) (pk_mono m1 (g2.trans g3)) h1
    exact ⟨p, vs, rfl, SqL.of (pk_now g0 _ _ e1), fun l hl' => q l _ F3 _ (g.trans (Gr.wild g.fh hl')) (g.hh.back hl') (g.fh.back hl') upd_same (Nat.le_trans (cutL_le _ _ _) e2) (pcut lo hi (pmap (fun _ _ z => Kp.kp g0 z) e3))⟩
/-- all, any of a list of bools -/
theorem pbl {F : Hp} : ∀ {vs : List V} {bs : List Bool}, Paired (rBl F) vs bs → vs = bs.map V.bl
  | _, _, .nil => rfl
  | _, _, .cons h t => by rw [List.map_cons, ← pbl t, show _ = _ from h]
theorem ed_all {bs : List Bool} (hx : Ed F0 H0 ta G m1 (rLst rBl) bs) : Ed F0 H0 (tCB (rAll K) (tCons ta tNil)) G m rBl (bs.all id) :=
  ed_c1 hx fun v F H g0 hv Q q => by
    obtain ⟨p, vs, rfl, h1, h2, h3⟩ := hv
    exact ⟨p, bs, rfl, by rw [← pbl h3]; exact SqL.of (pk_now g0 _ _ h1), q _ F H (Gr.refl g0.fh) rfl⟩
theorem ed_any {bs : List Bool} (hx : Ed F0 H0 ta G m1 (rLst rBl) bs) : Ed F0 H0 (tCB (rAny K) (tCons ta tNil)) G m rBl (bs.any id) :=
  ed_c1 hx fun v F H g0 hv Q q => by
    obtain ⟨p, vs, rfl, h1, h2, h3⟩ := hv
    exact ⟨p, bs, rfl, by rw [← pbl h3]; exact SqL.of (pk_now g0 _ _ h1), q _ F H (Gr.refl g0.fh) rfl⟩
/-- int(n), int(flag), str of a digit, int of a digit -/
abbrev rInt1 : List V → Hp → VK → Prop := fun xs H Q => (∃ i, xs = [.int i] ∧ Q (.int i) H) ∨ ∃ k, xs = [.bl k] ∧ Q (.int (if k then 1 else 0)) H
theorem ed_intI {i : Int} (hx : Ed F0 H0 ta G m1 rInt i) : Ed F0 H0 (tCB rInt1 (tCons ta tNil)) G m rInt i := ed_c1 hx fun v F H g0 hv Q q => .inl ⟨i, by rw [show v = _ from hv], q _ F H (Gr.refl g0.fh) rfl⟩
end
end LK
set_option Elab.async false
set_option linter.all false
set_option maxRecDepth 100000
set_option maxHeartbeats 4000000
set_option autoImplicit false
namespace LK
open PySem L2
def wipeG (G : List Slot) : List Nat → List Slot
  | [] => G
  | v :: vs => (wipeG G vs).set v .no
theorem wipe_set_ne {σ : L2.St} {j : Nat} {x : Option V} : ∀ {vs : List Nat}, j ∉ vs → wipe (σ.set j x) vs = (wipe σ vs).set j x
  | [], _ => rfl
  | v :: vs, h => by
    have h1 : j ≠ v := fun e => h (by rw [e]; exact List.mem_cons_self)
    have h2 : j ∉ vs := fun m => h (List.mem_cons_of_mem _ m)
    show (wipe (σ.set j x) vs).set v none = ((wipe σ vs).set v none).set j x
    rw [wipe_set_ne h2, List.set_comm _ _ h1]
theorem wipe_set {σ : L2.St} {j : Nat} {x : Option V} : ∀ {vs : List Nat}, j ∈ vs → wipe (σ.set j x) vs = wipe σ vs
  | v :: vs, h => by
    show (wipe (σ.set j x) vs).set v none = (wipe σ vs).set v none
    by_cases h2 : j ∈ vs
    · rw [wipe_set h2]
    · have e : j = v := (List.mem_cons.mp h).resolve_right h2
      subst e
      rw [wipe_set_ne h2, List.set_set]
theorem wipe_wipe {σ : L2.St} {vs : List Nat} : ∀ {us : List Nat}, (∀ j ∈ us, j ∈ vs) → wipe (wipe σ us) vs = wipe σ vs
  | [], _ => rfl
  | u :: us, h => by
    show wipe ((wipe σ us).set u none) vs = wipe σ vs
    rw [wipe_set (h u List.mem_cons_self)]
    exact wipe_wipe fun j hj => h j (List.mem_cons_of_mem _ hj)
theorem EnvOk.wipeA {F0 H0 F H : Hp} {G : List Slot} {σ : L2.St} (E : EnvOk F0 H0 G σ F H) : ∀ vs, EnvOk F0 H0 (wipeG G vs) (L2.wipe σ vs) F H
  | [] => E
  | _ :: vs => (EnvOk.wipeA E vs).wipe
/-- F1 may stand for F0 -/
def Bs (F0 H0 F1 : Hp) : Prop := Ex F0 F1 ∧ ∀ p o, F1 p = some o → F0 p = none → H0 p = none ∨ isT o = true
theorem Bs.trans {F0 H0 F1 F2 : Hp} (a : Bs F0 H0 F1) (b : Bs F1 H0 F2) : Bs F0 H0 F2 := ⟨a.1.trans b.1, fun p o h1 h2 => by
  cases e : F1 p with
  | none => exact b.2 p o h1 e
  | some u =>
    have z := b.1 p u e
    rw [h1] at z; cases z
    exact a.2 p o e h2⟩
section
variable {F0 H0 F1 F H : Hp} {G : List Slot} {σ : L2.St}
theorem Gr.bs (g : Gr F0 H0 F H) : Bs F0 H0 F := ⟨g.ff, g.nw⟩
theorem Gr.down (b : Bs F0 H0 F1) (g : Gr F1 H0 F H) : Gr F0 H0 F H := ⟨b.1.trans g.ff, g.fh, g.hh, fun p o h1 h2 => (b.trans g.bs).2 p o h1 h2⟩
theorem EnvOk.down (b : Bs F0 H0 F1) (E : EnvOk F1 H0 G σ F H) : EnvOk F0 H0 G σ F H := let ⟨fp, e⟩ := E; ⟨fp, e.gr.down b, e.len, e.at_, e.dj⟩
/-- from here on -/
theorem EnvOk.here (E : EnvOk F0 H0 G σ F H) : EnvOk F H0 G σ F H := let ⟨fp, e⟩ := E; ⟨fp, ⟨Ex.refl F, e.gr.fh, e.gr.hh, fun p o h1 h2 => by rw [h1] at h2; cases h2⟩, e.len, e.at_, e.dj⟩
end
structure WalkOk {α : Type} (J : It) (F1 H0 : Hp) (m : Md) (r : Rp α) (xs : List α) : Prop where
  go : ∀ i F H, Ex F1 F → Ex F H → Ex H0 H → i < xs.length → J.go i H
  stop : ∀ F H, Ex F1 F → Ex F H → Ex H0 H → J.stop xs.length H
  yld : ∀ i F H v H', Ex F1 F → Ex F H → Ex H0 H → i < xs.length → J.yld i H v H' → ∃ x F', xs[i]? = some x ∧ Gr F H F' H' ∧ r (pk m F' H0 H') v x
section
variable (F0 H0 : Hp)
def Ei {α : Type} (wi : TI) (G : List Slot) (m : Md) (r : Rp α) (xs : List α) : Prop := ∀ σ F H, EnvOk F0 H0 G σ F H → ∀ R : It → Hp → Prop, (∀ J F1 H1, Gr F H F1 H1 → WalkOk J F1 H0 m r xs → xs.length ≤ 16777216 → R J H1) → wi σ H R
/-- a target: what it stores; tg its slots -/
def Eg {α : Type} (g : TG) (m : Md) (r : Rp α) (up : α → List Slot → List Slot) (tg : List Nat) : Prop := ∀ F0 G σ F H v x, EnvOk F0 H0 G σ F H → r (pk m F H0 H) v x → ∀ Q : L2.St → Hp → Prop,
  (∀ σ', EnvOk F0 H0 (up x G) σ' F H → (∀ vs, (∀ j ∈ tg, j ∈ vs) → wipe σ' vs = wipe σ vs) → Q σ' H) → g v σ H Q
end
/-- an element's slot: frozen, or of the entry -/
class Md.Ok (m : Md) : Prop where
  ok : m ≠ .bo
instance : Md.Ok .sh := ⟨fun h => nomatch h⟩
instance : Md.Ok .b0 := ⟨fun h => nomatch h⟩
theorem pslot_no {α : Type} {m : Md} {r : Rp α} {im : Mo r} {x : α} : ∀ M iM, pslot m r im x ≠ .ow M iM := by
  intro M iM; cases m <;> exact fun h => nomatch h
section
variable {F0 H0 : Hp} {G : List Slot} {m m1 m2 : Md} {ta tb tc te tl : TE} {t u tt : TT} {K : PySem.W.Frag} {wi : TI} {g : TG}
theorem pick_ok {α : Type} {r : Rp α} {R : Hp} {vs : List V} {xs : List α} {i : Nat} {v : V} (p : Paired (r R) vs xs) (h : vs[i]? = some v) : ∃ x, xs[i]? = some x ∧ r R v x := pgetL p h
theorem pk_keep (m : Md) {F1 F H0 H1 H : Hp} [h : Md.Ok m] (e1 : Ex F1 F) : Ex (pk m F1 H0 H1) (pk m F H0 H) := by
  cases m with
  | sh => exact e1
  | b0 => exact Ex.refl _
  | bo => exact absurd rfl h.ok
theorem pk_in (m : Md) {F H0 H : Hp} (e1 : Ex F H) (e2 : Ex H0 H) : Ex (pk m F H0 H) H := by
  cases m with
  | sh => exact e1
  | b0 => exact e2
  | bo => exact Ex.refl _
theorem ei_list {α : Type} {r : Rp α} [Mo r] [Md.Ok m] {xs : List α} (h : Ed F0 H0 tl G m (rLst r) xs) : Ei F0 H0 (iList K tl) G m r xs := fun σ F H E R q =>
  h σ F H E _ fun v F1 H1 g1 hv => by
    obtain ⟨p, vs, rfl, h1, h2, h3⟩ := hv
    have hl := plen h3
    have sq : ∀ F H, Ex F1 F → Ex F H → Ex H0 H → SqL K H p vs := fun F H e1 e2 e3 => SqL.of (pk_in m e2 e3 _ _ (pk_keep m (H1 := H1) e1 _ _ h1))
    refine ⟨p, rfl, ⟨vs, SqL.of (pk_now (E.gr.trans g1) _ _ h1)⟩, q _ F1 H1 g1 ⟨fun i F H e1 e2 e3 hi => ⟨vs, vs[i]'(by omega), sq F H e1 e2 e3, by simp [show i < vs.length by omega]⟩,
      fun F H e1 e2 e3 => ⟨vs, sq F H e1 e2 e3, by omega⟩, fun i F H v H' e1 e2 e3 hi y => ?_⟩ h2⟩
    obtain ⟨rfl, y⟩ := y
    obtain ⟨x, hx, rx⟩ := pick_ok h3 (y vs (sq F _ e1 e2 e3))
    exact ⟨x, F, hx, Gr.refl e2, mox (pk_keep m e1) rx⟩
theorem ei_tup {α : Type} {r : Rp α} [Mo r] [Md.Ok m] {xs : List α} (h : Ed F0 H0 tl G m (rTup r) xs) : Ei F0 H0 (iTup K tl) G m r xs := fun σ F H E R q =>
  h σ F H E _ fun v F1 H1 g1 hv => by
    obtain ⟨p, vs, rfl, h1, h2, h3⟩ := hv
    have hl := plen h3
    have sq : ∀ F H, Ex F1 F → Ex F H → Ex H0 H → SqT K H p vs := fun F H e1 e2 e3 => SqT.of (pk_in m e2 e3 _ _ (pk_keep m (H1 := H1) e1 _ _ h1))
    refine ⟨p, rfl, ⟨vs, SqT.of (pk_now (E.gr.trans g1) _ _ h1)⟩, q _ F1 H1 g1 ⟨fun i F H e1 e2 e3 hi => ⟨vs, vs[i]'(by omega), sq F H e1 e2 e3, by simp [show i < vs.length by omega]⟩,
      fun F H e1 e2 e3 => ⟨vs, sq F H e1 e2 e3, by omega⟩, fun i F H v H' e1 e2 e3 hi y => ?_⟩ h2⟩
    obtain ⟨rfl, y⟩ := y
    obtain ⟨x, hx, rx⟩ := pick_ok h3 (y vs (sq F _ e1 e2 e3))
    exact ⟨x, F, hx, Gr.refl e2, mox (pk_keep m e1) rx⟩
/-- range(n), range(a, b) as lists -/
def rng2 (a b : Int) : List Int := (List.range (b - a).toNat).map fun (k : Nat) => a + (k : Int)
def rng (n : Int) : List Int := rng2 0 n
theorem rng2_len (a b : Int) : (rng2 a b).length = (b - a).toNat := by unfold rng2; simp
theorem rng2_get {a b : Int} {i : Nat} (h : i < (b - a).toNat) : (rng2 a b)[i]? = some (a + (i : Int)) := by unfold rng2; simp [h]
theorem mem_rng2 {a b x : Int} (h : x ∈ rng2 a b) : a ≤ x ∧ x < b := by
  unfold rng2 at h
  obtain ⟨k, hk, rfl⟩ := List.mem_map.mp h
  have := List.mem_range.mp hk
  omega
theorem mem_rng {n x : Int} (h : x ∈ rng n) : 0 ≤ x ∧ x < n := mem_rng2 h
theorem ei_rng1 {n : Int} (h : Ed F0 H0 te G m1 rInt n) (hn : n ≤ 16777216) (hn0 : -16777216 ≤ n) : Ei F0 H0 (iRng1 (tCons te tNil)) G .sh rInt (rng n) := fun σ F H E R q =>
  h σ F H E _ fun v F1 H1 g1 hv => ⟨n, by rw [show v = _ from hv], by omega, by omega, q _ F1 H1 g1 ⟨fun i F H e1 e2 e3 hi => by
      unfold rng at hi; rw [rng2_len] at hi; show i < n.toNat; rw [Int.sub_zero] at hi; exact hi, fun F H e1 e2 e3 => by
      unfold rng; rw [rng2_len]; show n.toNat ≤ _; rw [Int.sub_zero]; exact Nat.le_refl _, fun i F H v H' e1 e2 e3 hi y => by
      obtain ⟨rfl, y⟩ := y
      unfold rng at hi ⊢; rw [rng2_len] at hi
      exact ⟨_, F, rng2_get hi, Gr.refl e2, y⟩⟩ (by unfold rng; rw [rng2_len]; omega)⟩
/-- a text, sign by sign -/
def rCh : Rp Nat := fun _ v c => v = .str ⟨#[c]⟩
instance : Fl rCh := ⟨fun h => h⟩
theorem en_lc {α β : Type} {r : Rp α} {r' : Rp β} [Mo r'] {xs : List α} {up : α → List Slot → List Slot} {tg vs : List Nat} (p : α → Bool) (f : α → β) (hi : Ei F0 H0 wi G m r xs) (hg : Eg H0 g m r up tg) (hv : ∀ j ∈ tg, j ∈ vs)
    (ht : ∀ F1, Bs F0 H0 F1 → ∀ x ∈ xs, Et F1 H0 tt (up x (wipeG G vs)) (p x)) (he : ∀ F1, Bs F0 H0 F1 → ∀ x ∈ xs, p x = true → Ed F1 H0 te (up x (wipeG G vs)) .sh r' (f x)) :
    En F0 H0 (tLc wi g tt te vs) G r' ((xs.filter p).map f) := fun σ F H E Q q => hi σ F H E _ fun J F1 H1 g1 w hxl D hD => by
  have E1 := (E.gro g1).here
  have b1 : Bs F0 H0 F1 := (E.gr.trans g1).bs
  have nF1 : F1 D = none := g1.fh.back hD
  -- the state behind i turns
  let Pv : Nat → Hp → Prop := fun i H' => ∃ F' Hm ws, EnvOk F1 H0 (wipeG G vs) (wipe σ vs) F' Hm ∧ Gr F1 H1 F' Hm ∧ Hm D = none ∧ H' = upd Hm D (.lst ws) ∧ Paired (r' F') ws (((xs.take i).filter p).map f)
  have take_s : ∀ i x, xs[i]? = some x → xs.take (i + 1) = xs.take i ++ [x] := fun i x hx => by
    rw [List.take_add_one, hx]; rfl
  refine ⟨fun i k H' => k = xs.length - i ∧ i ≤ xs.length ∧ Pv i H', ⟨xs.length, by simp, Nat.zero_le _, F1, H1, [], E1.wipeA vs, Gr.refl g1.fh, hD, rfl, by simp; exact .nil⟩, ?_⟩
  rintro i k H' ⟨rfl, hi', F', Hm, ws, E2, g2, nD, rfl, pw⟩
  have gw := Gr.wild (p := D) (o := .lst ws) g2.fh nD
  have E3 := E2.gro gw
  have nF' : F' D = none := g2.fh.back nD
  have eH0 : Ex H0 (upd Hm D (.lst ws)) := E3.gr.hh
  by_cases hlt : i < xs.length
  · refine .inr ⟨w.go i F' _ g2.ff E3.gr.fh eH0 hlt, Pv (i + 1), fun H'' p' => ⟨xs.length - (i + 1), by omega, rfl, hlt, p'⟩, fun v H'' y => ?_⟩
    obtain ⟨x, F3, hx, g3, rx⟩ := w.yld i F' _ v H'' g2.ff E3.gr.fh eH0 hlt y
    have hmem : x ∈ xs := List.mem_of_getElem? hx
    refine hg F1 _ _ F3 H'' v x (E3.gro g3) rx _ fun σ2 E4 hw2 => ⟨?_, ?_⟩
    · rw [hw2 vs hv, wipe_wipe fun _ z => z]
    refine ht F1 b1 x hmem σ2 F3 H'' E4 _ fun F4 H4 g4 => ?_
    -- what stands but for the new list
    have slim : ∀ {Fx Hx : Hp}, Gr F' (upd Hm D (.lst ws)) Fx Hx → EnvOk F1 H0 (wipeG G vs) (wipe σ vs) Fx (fun a => if a = D then none else Hx a) ∧ Gr F1 H1 Fx (fun a => if a = D then none else Hx a) ∧ Fx D = none := fun {Fx Hx} gx => by
      have nx : Fx D = none := gx.fr nF' upd_same rfl
      have gs : Gr F' Hm Fx (fun a => if a = D then none else Hx a) := ⟨gx.ff, fun a o e => by
          have ha : a ≠ D := fun z => by rw [z, nx] at e; cases e
          show (if a = D then none else Hx a) = some o
          rw [if_neg ha]; exact gx.fh a o e, fun a o e => by
          have ha : a ≠ D := fun z => by rw [z, nD] at e; cases e
          show (if a = D then none else Hx a) = some o
          rw [if_neg ha]; exact gx.hh a o (by rw [upd_ne ha]; exact e), fun a o e n => by
          have ha : a ≠ D := fun z => by rw [z, nx] at e; cases e
          have z := gx.nw a o e n
          rw [upd_ne ha] at z; exact z⟩
      exact ⟨E2.gro gs, g2.trans gs, nx⟩
    have back : ∀ {Hx : Hp} {o : HO}, Hx D = some o → Hx = upd (fun a => if a = D then none else Hx a) D o := fun {Hx o} e => by
      funext a
      unfold upd
      by_cases ha : a = D
      · rw [if_pos ha, ha]; exact e
      · rw [if_neg ha]
        show Hx a = if a = D then none else Hx a
        rw [if_neg ha]
    have gx := g3.trans g4
    have hD4 : H4 D = some (.lst ws) := gx.hh D _ upd_same
    cases hp : p x with
    | false =>
      obtain ⟨z1, z2, z3⟩ := slim gx
      refine ⟨F4, _, ws, z1, z2, by simp, back hD4, ?_⟩
      rw [take_s i x hx, List.filter_append, List.filter_cons, if_neg (by rw [hp]; decide)]
      simpa using pmap (fun _ _ z => mox gx.ff z) pw
    | true =>
      refine he F1 b1 x hmem hp σ2 F4 H4 (E4.gro g4) _ fun y5 F5 H5 g5 hy => ?_
      have gy := gx.trans g5
      obtain ⟨z1, z2, z3⟩ := slim gy
      have hD5 : H5 D = some (.lst ws) := gy.hh D _ upd_same
      have hl : ws.length < 16777216 := by
        rw [plen pw, List.length_map]
        have := List.length_filter_le p (xs.take i)
        rw [List.length_take] at this
        omega
      refine ⟨ws, hD5, L2LT hl, F5, _, ws ++ [y5], z1, z2, by simp, ?_, ?_⟩
      · funext a
        unfold upd
        by_cases ha : a = D
        · rw [if_pos ha, if_pos ha]
        · rw [if_neg ha, if_neg ha]
          show H5 a = if a = D then none else H5 a
          rw [if_neg ha]
      · rw [take_s i x hx, List.filter_append, List.filter_cons, if_pos hp, List.map_append]
        exact papp (pmap (fun _ _ z => mox gy.ff z) pw) (.cons hy .nil)
  · have e : i = xs.length := by omega
    subst e
    rw [List.take_length] at pw
    refine .inl ⟨w.stop F' _ g2.ff E3.gr.fh eH0, q D ws F' _ (g1.trans (g2.trans gw)) (g1.hh.back hD) nF' upd_same ?_ pw⟩
    rw [List.length_map]
    exact Nat.le_trans (List.length_filter_le _ _) hxl
where L2LT {n : Nat} (h : n < 16777216) : n < sizeLine := sz_lt h
end
end LK
set_option Elab.async false
set_option linter.all false
set_option maxRecDepth 100000
set_option maxHeartbeats 4000000
set_option autoImplicit false
namespace LK
open PySem L2 PyProof.Rows PySem.Spec
section
variable {F0 H0 : Hp} {G : List Slot} {m m1 m2 : Md} {ta tb tc te tl : TE} {tt : TT} {t u : TS} {K : PySem.W.Frag} {wi : TI} {g : TG} {nx : L2.St → Hp → Prop} {rt : VK} {bk ct : L2.St → Hp → Prop}
/-- from now on it stays as it is -/
theorem gk_freeze {α : Type} {r : Rp α} [im : Mo r] {xs : List α} {iM : MoM (mL r xs)} {k : L2.St → Hp → Prop} (i : Nat) (hi : G[i]? = some (.ow (mL r xs) iM)) (h : Gk F0 H0 k (G.set i (sF (rLst r) xs))) : Gk F0 H0 k G := fun σ F H E => by
  obtain ⟨F', E', _⟩ := E.freeze (s := sF (rLst r) xs) hi (fun p S F' ⟨hS, vs, e, h1, h2⟩ hp ee _ => ⟨.ref p, rfl, p, vs, rfl, by rw [hp p (by rw [hS]; simp), e], h1, pmap (fun _ _ z => mox ee z) h2⟩) (fun _ _ z => nomatch z)
  exact h σ F' H E'
theorem gk_app {α : Type} {r : Rp α} [im : Mo r] {xs : List α} {iM : MoM (mL r xs)} {a : α} {i : Nat} (hi : G[i]? = some (.ow (mL r xs) iM)) (h : Ed F0 H0 te G .sh r a) (hl : xs.length < 16777216) (k : Gk F0 H0 nx (G.set i (sL r (xs ++ [a])))) :
    Gk F0 H0 (tDrop (tBM K "list" rAppend (tVar i) (tCons te tNil)) ⟨nx, rt, bk, ct⟩) G := fun σ F H E => by
  obtain ⟨p, vs, hx, h1, h2, h3, h4, h5⟩ := E.lst_at hi
  refine ⟨_, hx, .inl ⟨rfl, _, SqL.of h3⟩, h σ F H E _ fun v F1 H1 g1 hv => ⟨p, vs, v, rfl, rfl, g1.hh _ _ h3, by rw [plen h5]; exact sz_lt hl, ?_⟩⟩
  exact k σ F1 _ ((E.gro g1).mutL hi hx (by simp; omega) (papp (pmap (fun _ _ z => mox g1.ff z) h5) (.cons hv .nil)))
theorem Pt.ra_b0 {α : Type} : ∀ (T : Pt α) {F H : Hp} {vs : List V} {a : α}, T.ra F H H vs a → ∀ {n : Nat} {G : List Slot}, ∀ (i : Nat) (s : Slot), (T.slots a)[i]? = some s → ∃ x, vs[i]? = some x ∧ SlotOk H F H (some x) [] s
  | .nil, _, _, _, _, _, _, _, i, s, h => by simp [Pt.slots] at h
  | .cons m r im t, F, H, vs, a, h, n, G, i, s, hs => by
    obtain ⟨v, us, rfl, h2, h3⟩ := h
    cases i with
    | zero =>
      have e : s = pslot m r im a.1 := (Option.some.inj hs).symm
      subst e
      refine ⟨v, rfl, ?_⟩
      cases m with
      | sh => exact ⟨v, rfl, h2⟩
      | b0 => exact ⟨v, rfl, h2⟩
      | bo => exact ⟨v, rfl, h2⟩
    | succ i => exact t.ra_b0 h3 (n := n) (G := G) i s hs
theorem slots_noM {α : Type} : ∀ (T : Pt α) (a : α) (i : Nat) (M : Mu) (iM : MoM M), (T.slots a)[i]? ≠ some (.ow M iM)
  | .nil, _, i, M, iM => by simp [Pt.slots]
  | .cons m r im t, a, 0, M, iM => by
    intro h
    have e : pslot m r im a.1 = .ow M iM := Option.some.inj h
    exact pslot_no M iM e
  | .cons m r im t, a, i + 1, M, iM => slots_noM t a.2 i M iM
theorem slots_len {α : Type} : ∀ (T : Pt α) (a : α), (T.slots a).length = T.count
  | .nil, _ => rfl
  | .cons m r im t, a => by show (t.slots a.2).length + 1 = t.count + 1; rw [slots_len t]
/-- at a def's entry -/
theorem entry {α : Type} {T : Pt α} {F H : Hp} {vs : List V} {a : α} {N : List Str} (e : Ex F H) (h : T.ra F H H vs a) (k : Nat) (hk : N.length = T.count + k) : EnvOk F H (T.slots a ++ List.replicate k .no) (L2.start N vs) F H := by
  have hl := T.length h
  have hs := slots_len T a
  refine ⟨fun _ => [], Gr.refl e, ?_, fun i s hi => ?_, fun i j M iM N' iN p hij h1 => ?_⟩
  · unfold L2.start; simp [hl, hs]; omega
  · by_cases c : i < T.count
    · rw [List.getElem?_append_left (by rw [hs]; exact c)] at hi
      obtain ⟨x, hx, ok⟩ := T.ra_b0 h (n := 0) (G := []) i s hi
      refine ⟨some x, ?_, ok⟩
      unfold L2.start
      rw [List.getElem?_append_left (by simp; omega), List.getElem?_map, hx]; rfl
    · rw [List.getElem?_append_right (by omega)] at hi
      rw [List.getElem?_replicate] at hi
      split at hi
      · cases hi
        refine ⟨none, ?_, trivial⟩
        unfold L2.start
        rw [List.getElem?_append_right (by simp; omega), List.getElem?_replicate]
        rw [if_pos (by simp; omega)]
      · cases hi
  · by_cases c : i < T.count
    · rw [List.getElem?_append_left (by rw [hs]; exact c)] at h1
      exact absurd h1 (slots_noM T a i M iM)
    · rw [List.getElem?_append_right (by omega)] at h1
      rw [List.getElem?_replicate] at h1
      split at h1 <;> cases h1
theorem Pt.now {α : Type} : ∀ (T : Pt α) {F H F0 H0 : Hp} {vs : List V} {a : α}, Gr F0 H0 F H → T.ra F H0 H vs a → T.ra F H H vs a
  | .nil, _, _, _, _, _, _, _, h => h
  | .cons m r i t, F, H, F0, H0, _, _, g, h => by
    obtain ⟨v, us, h1, h2, h3⟩ := h
    refine ⟨v, us, h1, i.ex (?_ : Ex (pk m F H0 H) (pk m F H H)) h2, t.now g h3⟩
    cases m with
    | sh => exact Ex.refl _
    | b0 => exact g.hh
    | bo => exact Ex.refl _
end
section
end
end LK
set_option Elab.async false
set_option linter.all false
set_option maxRecDepth 100000
set_option maxHeartbeats 4000000
set_option autoImplicit false
namespace LK
open PySem L2 PyProof.Rows PySem.Spec
/-- what a caller knows of a def by its name -/
structure Cal (K : PySem.W.Frag) (mg : Str → Option Value) (x : Str) (f : Addr) (fd : FuncData) (ps : List Str) : Prop where
  mg : mg x = some (.ref f)
  kp : PySem.W.keepIn K (.ref f) = true
  bi : Binds K fd ps []
section
end
def Lw : List Slot → List Slot → Prop
  | [], [] => True
  | s :: G, t :: G' => (t = .no ∨ s = t) ∧ Lw G G'
  | _, _ => False
theorem Lw.len : ∀ {G G' : List Slot}, Lw G G' → G.length = G'.length
  | [], [], _ => rfl
  | _ :: _, _ :: _, h => by rw [List.length_cons, List.length_cons, Lw.len h.2]
  | [], _ :: _, h => h.elim
  | _ :: _, [], h => h.elim
theorem Lw.at_ : ∀ {G G' : List Slot}, Lw G G' → ∀ (i : Nat) (t : Slot), G'[i]? = some t → t = .no ∨ G[i]? = some t
  | [], [], _, i, t, h => by simp at h
  | s :: G, t :: G', l, 0, u, h => by
    have e : t = u := Option.some.inj h
    subst e
    rcases l.1 with q | q
    · exact .inl q
    · exact .inr (by rw [q]; rfl)
  | s :: G, t :: G', l, i + 1, u, h => Lw.at_ l.2 i u h
  | [], _ :: _, l, _, _, _ => l.elim
  | _ :: _, [], l, _, _, _ => l.elim
theorem Lw.refl : ∀ G : List Slot, Lw G G
  | [] => trivial
  | _ :: G => ⟨.inr rfl, Lw.refl G⟩
section
variable {F0 H0 F H : Hp} {G G' : List Slot} {σ : L2.St}
theorem EnvOk.weak (E : EnvOk F0 H0 G σ F H) (l : Lw G G') : EnvOk F0 H0 G' σ F H := by
  obtain ⟨fp, E⟩ := E
  refine ⟨fp, E.gr, E.len.trans l.len, fun i s h => ?_, fun i j M iM N iN p hij h1 h2 h3 => ?_⟩
  · rcases l.at_ i s h with e | e
    · subst e
      have hi : i < σ.length := by rw [E.len, l.len]; exact (List.getElem?_eq_some_iff.mp h).1
      exact ⟨_, List.getElem?_eq_getElem hi, trivial⟩
    · exact E.at_ i s e
  · rcases l.at_ i _ h1 with e | h1
    · cases e
    · rcases l.at_ j _ h2 with e | h2
      · cases e
      · exact E.dj i j M iM N iN p hij h1 h2 h3
end
section
variable {F0 H0 : Hp} {G : List Slot} {m m1 m2 : Md} {ta tb tc te tl : TE} {tt : TT} {t u : TS} {K : PySem.W.Frag} {wi : TI} {g : TG} {nx : L2.St → Hp → Prop} {rt : VK} {bk ct : L2.St → Hp → Prop}
/-- loops that may hand back, by what is to be handed back -/
def runC {α S β : Type} (f : S → α → (S → β) → β) : S → List α → (S → β) → β
  | s, [], k => k s
  | s, x :: xs, k => f s x fun s' => runC f s' xs k
def CpK {α S : Type} (F1 H0 : Hp) (P : List α → S → Prop) (ups : S → List Slot → List Slot) (G : List Slot) (rest : List α) : L2.St → Hp → Prop := fun σ H => ∃ s F, P rest s ∧ EnvOk F1 H0 (ups s G) σ F H
theorem gk_run {α S : Type} {r : Rp α} {xs : List α} {up : α → List Slot → List Slot} {tg : List Nat} (P : List α → S → Prop) (ups : S → List Slot → List Slot) (s0 : S) (hi : Ei F0 H0 wi G m r xs) (hg : Eg H0 g m r up tg) (e0 : Lw G (ups s0 G)) (p0 : P xs s0)
    (hs : ∀ F1, Bs F0 H0 F1 → ∀ x rest s, x ∈ xs → P (x :: rest) s → Gk F1 H0 (t ⟨CpK F1 H0 P ups G rest, rt, nx, CpK F1 H0 P ups G rest⟩) (up x (ups s G))) (hd : ∀ s, P [] s → Gk F0 H0 nx (ups s G)) :
    Gk F0 H0 (tFor wi g t ⟨nx, rt, bk, ct⟩) G := fun σ F H E => by
  refine hi σ F H E _ fun J F1 H1 g1 w hxl => ?_
  have E1 := ((E.gro g1).weak e0).here
  have b1 : Bs F0 H0 F1 := (E.gr.trans g1).bs
  refine ⟨fun i k σ' H' => k = xs.length - i ∧ i ≤ xs.length ∧ ∃ s F', P (xs.drop i) s ∧ EnvOk F1 H0 (ups s G) σ' F' H', ⟨xs.length, by simp, Nat.zero_le _, s0, F1, p0, E1⟩, ?_⟩
  rintro i k σ' H' ⟨rfl, hi', s, F', ps, E2⟩
  by_cases hlt : i < xs.length
  · have hx : xs[i]? = some xs[i] := List.getElem?_eq_getElem hlt
    have hd' : xs.drop i = xs[i] :: xs.drop (i + 1) := List.drop_eq_getElem_cons hlt
    rw [hd'] at ps
    refine .inr ⟨w.go i F' H' E2.gr.ff E2.gr.fh E2.gr.hh hlt, CpK F1 H0 P ups G (xs.drop (i + 1)), fun σ'' H'' ⟨s', F'', p', E'⟩ => ⟨xs.length - (i + 1), by omega, rfl, hlt, s', F'', p', E'⟩, fun v H'' y => ?_⟩
    obtain ⟨x, F3, hx', g3, rx⟩ := w.yld i F' H' v H'' E2.gr.ff E2.gr.fh E2.gr.hh hlt y
    rw [hx] at hx'
    cases hx'
    exact hg F1 _ _ F3 H'' v _ (E2.gro g3) rx _ fun σ2 E4 _ => hs F1 b1 _ _ s (List.mem_of_getElem? hx) ps σ2 F3 H'' E4
  · have e : i = xs.length := by omega
    subst e
    rw [List.drop_length] at ps
    exact .inl ⟨w.stop F' H' E2.gr.ff E2.gr.fh E2.gr.hh, hd s ps σ' F' H' (E2.down b1)⟩
end
def rScr (K : PySem.W.Frag) : Rp (List Int) := fun F v ns => ∃ p, v = .ref p ∧ SqL K F p (ns.map V.int)
instance (K : PySem.W.Frag) : Mo (rScr K) := ⟨fun e ⟨p, h1, h2⟩ => by
  refine ⟨p, h1, ?_⟩
  rcases h2 with (h2 | ⟨o, h2⟩) | h2
  · exact .inl (.inl (e.at_ h2 rfl))
  · exact .inl (.inr ⟨o, e.at_ h2 rfl⟩)
  · exact .inr h2⟩
theorem SqL.ex {K : PySem.W.Frag} {F F' : Hp} {p : Addr} {xs : List V} (h : SqL K F p xs) (e : Ex F F') : SqL K F' p xs := by
  rcases h with (h | ⟨o, h⟩) | h
  · exact .inl (.inl (e _ _ h))
  · exact .inl (.inr ⟨o, e _ _ h⟩)
  · exact .inr h
section
variable {F0 H0 : Hp} {G : List Slot} {m m1 m2 : Md} {ta tb : TE} {K : PySem.W.Frag}
theorem ed_lenS {ns : List Int} (hx : Ed F0 H0 ta G m1 (rScr K) ns) : Ed F0 H0 (tCB (rLenQ K) (tCons ta tNil)) G m rInt (ns.length : Int) :=
  ed_c1 hx fun v F H g0 hv Q q => by
    obtain ⟨p, rfl, h1⟩ := hv
    exact ⟨p, _, rfl, .inl (SqL.ex h1 (pk_now g0)), q _ F H (Gr.refl g0.fh) (by rw [List.length_map]; rfl)⟩
theorem ed_ixS {ns : List Int} {i : Int} (hx : Ed F0 H0 ta G m1 (rScr K) ns) (hy : Ed F0 H0 tb G m2 rInt i) (hi : ixOk ns.length i) : Ed F0 H0 (tOp (rIxL K) ta tb) G m rInt (ixD ns i) :=
  ed_bin hx hy fun v w F H g0 hv hw Q q => by
    obtain ⟨p, rfl, h1⟩ := hv
    refine ⟨p, _, i, .int (ixD ns i), rfl, hw, SqL.ex h1 (pk_now g0), ?_, q _ F H (Gr.refl g0.fh) rfl⟩
    have e := atI_ok hi
    unfold atI at e ⊢
    rw [List.length_map]
    cases q : ixN ns.length i with
    | none => rw [q] at e; cases e
    | some j =>
      rw [q] at e
      show (ns.map V.int)[j]? = _
      have e : ns[j]? = some (ixD ns i) := e
      rw [List.getElem?_map, e]; rfl
end
inductive Dt
  | non | bl (b : Bool) | int (i : Int) | tx (s : List Nat) | lst (xs : List Dt) | tup (xs : List Dt)
mutual
def rDt (F : Hp) : V → Dt → Prop
  | v, .non => v = .non
  | v, .bl b => v = .bl b
  | v, .int i => v = .int i
  | v, .tx s => v = .str ⟨s.toArray⟩ ∧ s.length ≤ 16777216 ∧ ∀ c ∈ s, c < 1114112
  | v, .lst xs => ∃ p vs, v = .ref p ∧ F p = some (.lst vs) ∧ xs.length ≤ 16777216 ∧ rDts F vs xs
  | v, .tup xs => ∃ p vs, v = .ref p ∧ F p = some (.tup vs) ∧ xs.length ≤ 16777216 ∧ rDts F vs xs
def rDts (F : Hp) : List V → List Dt → Prop
  | vs, [] => vs = []
  | vs, x :: xs => ∃ v us, vs = v :: us ∧ rDt F v x ∧ rDts F us xs
end
theorem rDts_p {F : Hp} : ∀ {vs : List V} {xs : List Dt}, rDts F vs xs ↔ Paired (rDt F) vs xs
  | vs, [] => by
    unfold rDts
    exact ⟨fun h => by rw [h]; exact .nil, fun h => by cases h; rfl⟩
  | vs, x :: xs => by
    unfold rDts
    constructor
    · rintro ⟨v, us, rfl, h1, h2⟩; exact .cons h1 (rDts_p.mp h2)
    · intro h
      cases h with
      | cons h1 h2 => exact ⟨_, _, rfl, h1, rDts_p.mpr h2⟩
mutual
theorem rDt_mo {F F' : Hp} (e : Exs F F') : ∀ {d : Dt} {v : V}, rDt F v d → rDt F' v d
  | .non, _, h => by unfold rDt at h ⊢; exact h
  | .bl _, _, h => by unfold rDt at h ⊢; exact h
  | .int _, _, h => by unfold rDt at h ⊢; exact h
  | .tx _, _, h => by unfold rDt at h ⊢; exact h
  | .lst xs, _, h => by
    unfold rDt at h ⊢
    obtain ⟨p, vs, h1, h2, h3, h4⟩ := h
    exact ⟨p, vs, h1, e.at_ h2 rfl, h3, rDts_mo e h4⟩
  | .tup xs, _, h => by
    unfold rDt at h ⊢
    obtain ⟨p, vs, h1, h2, h3, h4⟩ := h
    exact ⟨p, vs, h1, e.at_ h2 rfl, h3, rDts_mo e h4⟩
theorem rDts_mo {F F' : Hp} (e : Exs F F') : ∀ {ds : List Dt} {vs : List V}, rDts F vs ds → rDts F' vs ds
  | [], _, h => by unfold rDts at h ⊢; exact h
  | x :: xs, _, h => by
    unfold rDts at h ⊢
    obtain ⟨v, us, h1, h2, h3⟩ := h
    exact ⟨v, us, h1, rDt_mo e h2, rDts_mo e h3⟩
end
instance : Mo rDt := ⟨fun e h => rDt_mo e h⟩
/-- a datum of a known kind as one of these -/
class Tod {α : Type} (r : Rp α) where
  d : α → Dt
  to : ∀ {F : Hp} {v : V} {a : α}, r F v a → rDt F v (d a)
  inj : ∀ {a b : α}, d a = d b → a = b
instance : Tod rInt := ⟨.int, fun h => by unfold rDt; exact h, fun e => by injection e⟩
instance : Tod rBl := ⟨.bl, fun h => by unfold rDt; exact h, fun e => by injection e⟩
instance : Tod rTx := ⟨.tx, fun h => by unfold rDt; exact h, fun e => by injection e⟩
theorem map_inj {α β : Type} {f : α → β} (h : ∀ {a b : α}, f a = f b → a = b) : ∀ {xs ys : List α}, xs.map f = ys.map f → xs = ys
  | [], [], _ => rfl
  | [], _ :: _, e => by cases e
  | _ :: _, [], e => by cases e
  | x :: xs, y :: ys, e => by
    injection e with e1 e2
    rw [h e1, map_inj h e2]
theorem pmapr {α β γ : Type} {R : α → β → Prop} {S : α → γ → Prop} {f : β → γ} (h : ∀ a b, R a b → S a (f b)) : ∀ {xs : List α} {ys : List β}, Paired R xs ys → Paired S xs (ys.map f)
  | _, _, .nil => .nil
  | _, _, .cons a t => .cons (h _ _ a) (pmapr h t)
instance {α : Type} (r : Rp α) [h : Tod r] : Tod (rLst r) := ⟨fun xs => .lst (xs.map h.d), fun ⟨p, vs, h1, h2, h3, h4⟩ => by unfold rDt; exact ⟨p, vs, h1, h2, by rw [List.length_map]; exact h3, rDts_p.mpr (pmapr (fun _ _ z => h.to z) h4)⟩, fun e => by
  injection e with e; exact map_inj (fun z => h.inj z) e⟩
instance {α : Type} (r : Rp α) [h : Tod r] : Tod (rTup r) := ⟨fun xs => .tup (xs.map h.d), fun ⟨p, vs, h1, h2, h3, h4⟩ => by unfold rDt; exact ⟨p, vs, h1, h2, by rw [List.length_map]; exact h3, rDts_p.mpr (pmapr (fun _ _ z => h.to z) h4)⟩, fun e => by
  injection e with e; exact map_inj (fun z => h.inj z) e⟩
instance {α β : Type} (r : Rp α) (s : Rp β) [h : Tod r] [g : Tod s] : Tod (rPr r s) := ⟨fun x => .tup [h.d x.1, g.d x.2], fun ⟨p, u, w, h1, h2, h3, h4⟩ => by unfold rDt; exact ⟨p, [u, w], h1, h2, by simp, rDts_p.mpr (.cons (h.to h3) (.cons (g.to h4) .nil))⟩, fun {a b} e => by
  injection e with e
  injection e with e1 e2
  injection e2 with e2 _
  exact Prod.ext (h.inj e1) (g.inj e2)⟩
end LK
set_option Elab.async false
set_option linter.all false
set_option maxRecDepth 100000
set_option maxHeartbeats 4000000
set_option autoImplicit false
namespace LK
open PySem L2 PyProof.Rows PySem.Spec
theorem ct {α : Type} {c : Bool} {x y z : α} (h : c = true) (e : x = z) : cond c x y = z := by rw [h]; exact e
theorem lw_nil : Lw [] [] := trivial
theorem lw_no {s : Slot} {G G' : List Slot} (h : Lw G G') : Lw (s :: G) (.no :: G') := ⟨.inl rfl, h⟩
theorem lw_eq {s t : Slot} {G G' : List Slot} (e : s = t) (h : Lw G G') : Lw (s :: G) (t :: G') := ⟨.inr e, h⟩
theorem rng_len (n : Int) : (rng n).length = n.toNat := by unfold rng; rw [rng2_len, Int.sub_zero]
section
variable {F0 H0 : Hp} {G : List Slot} {m m1 m2 : Md} {ta tb tc te tl : TE} {tt : TT} {t u : TS} {K : PySem.W.Frag} {wi : TI} {g : TG} {nx : L2.St → Hp → Prop} {rt : VK} {bk ct : L2.St → Hp → Prop}
class Ln {α : Type} (r : Rp (List α)) : Prop where
  ln : ∀ {F : Hp} {v : V} {x : List α}, r F v x → x.length ≤ 16777216
instance : Ln rTx := ⟨fun h => h.2.1⟩
instance {α : Type} (r : Rp α) : Ln (rLst r) := ⟨fun ⟨_, _, _, _, h, _⟩ => h⟩
instance {α : Type} (r : Rp α) : Ln (rTup r) := ⟨fun ⟨_, _, _, _, h, _⟩ => h⟩
theorem ptx {F : Hp} : ∀ {vs : List V} {xs : List (List Nat)}, Paired (rTx F) vs xs → vs = xs.map fun x => V.str ⟨x.toArray⟩
  | _, _, .nil => rfl
  | _, _, .cons h t => by rw [List.map_cons, ← ptx t, h.1]
theorem ptx_ok {F : Hp} : ∀ {vs : List V} {xs : List (List Nat)}, Paired (rTx F) vs xs → ∀ l ∈ xs, ∀ c ∈ l, c < 1114112
  | _, _, .cons h t, l, hl, c, hc => by
    rcases List.mem_cons.mp hl with e | e
    · subst e; exact h.2.2 c hc
    · exact ptx_ok t l e c hc
abbrev rJoin (K : PySem.W.Frag) : V → List V → Hp → VK → Prop := fun x xs H Q => ∃ a p, ∃ ys : List Str, x = .str a ∧ xs = [.ref p] ∧ (SqL K H p (ys.map V.str) ∨ SqT K H p (ys.map V.str)) ∧ (ys.map (·.length)).sum + ys.length * a.length ≤ 16777216 ∧ Q (.str (Txt.join a ys)) H
theorem joinL_nil : ∀ xs : List (List Nat), TL.joinL [] xs = xs.flatten
  | [] => rfl
  | [p] => by simp [TL.joinL]
  | p :: q :: r => by
    show p ++ ([] ++ TL.joinL [] (q :: r)) = _
    rw [joinL_nil (q :: r)]; simp
theorem sum_len : ∀ xs : List (List Nat), ((xs.map fun x => (⟨x.toArray⟩ : Str)).map (·.length)).sum = xs.flatten.length
  | [] => rfl
  | x :: xs => by
    rw [List.map_cons, List.map_cons, List.sum_cons, sum_len xs, List.flatten_cons, List.length_append, tx_len]
theorem ed_join {xs : List (List Nat)} (hx : Ed F0 H0 ta G m1 rTx []) (hy : Ed F0 H0 tb G m2 (rLst rTx) xs) (hl : xs.flatten.length ≤ 16777216) : Ed F0 H0 (tM1 (rJoin K) ta tb) G m rTx xs.flatten := fun σ F H E Q q =>
  hx σ F H E _ fun v F1 H1 g1 hv => ⟨⟨_, hv.1⟩, hy σ F1 H1 (E.gro g1) _ fun w F2 H2 g2 hw => by
    obtain ⟨p, vs, rfl, h1, h2, h3⟩ := hw
    refine ⟨_, p, xs.map fun x => (⟨x.toArray⟩ : Str), hv.1, rfl, .inl (SqL.of ?_), ?_, ?_⟩
    · have e := ptx h3
      have h := pk_now (E.gr.trans (g1.trans g2)) _ _ h1
      rw [e] at h
      rw [List.map_map]; exact h
    · rw [sum_len, tx_len, List.length_nil, Nat.mul_zero, Nat.add_zero]; exact hl
    · refine q _ F2 H2 (g1.trans g2) ⟨?_, hl, fun c hc => by obtain ⟨l, hl1, hl2⟩ := List.mem_flatten.mp hc; exact ptx_ok h3 l hl1 c hl2⟩
      have e : TL.tl (Txt.join ⟨([] : List Nat).toArray⟩ (xs.map fun x => (⟨x.toArray⟩ : Str))) = xs.flatten := by
        rw [TL.join_eq, TL.tl_join]
        have e2 : (xs.map fun x => (⟨x.toArray⟩ : Str)).map TL.tl = xs := by
          rw [List.map_map]
          exact (List.map_congr_left (fun _ _ => rfl)).trans (List.map_id xs)
        rw [e2]
        exact joinL_nil xs
      exact congrArg V.str (TL.ext_tl e)⟩
end
mutual
def Dt.dep : Dt → Nat
  | .lst xs => depAll xs + 1
  | .tup xs => depAll xs + 1
  | _ => 0
def depAll : List Dt → Nat
  | [] => 0
  | x :: xs => max x.dep (depAll xs)
end
theorem depAll_le {n : Nat} : ∀ {xs : List Dt}, (∀ x ∈ xs, x.dep ≤ n) → depAll xs ≤ n
  | [], _ => Nat.zero_le _
  | x :: xs, h => by
    unfold depAll
    exact Nat.max_le.mpr ⟨h x List.mem_cons_self, depAll_le fun y hy => h y (List.mem_cons_of_mem _ hy)⟩
mutual
def same : Dt → Dt → Bool
  | .non, .non => true
  | .bl a, .bl b => decide (a = b)
  | .int a, .int b => decide (a = b)
  | .tx a, .tx b => decide (a = b)
  | .lst a, .lst b => sames a b
  | .tup a, .tup b => sames a b
  | _, _ => false
def sames : List Dt → List Dt → Bool
  | [], [] => true
  | a :: as, b :: bs => same a b && sames as bs
  | _, _ => false
end
mutual
theorem same_iff : ∀ (a b : Dt), same a b = true ↔ a = b
  | .non, b => by cases b <;> simp [same]
  | .bl x, b => by cases b <;> simp [same]
  | .int x, b => by cases b <;> simp [same]
  | .tx x, b => by cases b <;> simp [same]
  | .lst xs, b => by
    cases b with
    | lst ys => simp only [same, Dt.lst.injEq]; exact sames_iff xs ys
    | _ => simp [same]
  | .tup xs, b => by
    cases b with
    | tup ys => simp only [same, Dt.tup.injEq]; exact sames_iff xs ys
    | _ => simp [same]
theorem sames_iff : ∀ (as bs : List Dt), sames as bs = true ↔ as = bs
  | [], bs => by cases bs <;> simp [sames]
  | a :: as, [] => by simp [sames]
  | a :: as, b :: bs => by
    simp only [sames, Bool.and_eq_true, List.cons.injEq]
    rw [same_iff a b, sames_iff as bs]
end
class Dep {α : Type} (r : Rp α) [t : Tod r] (n : outParam Nat) : Prop where
  le : ∀ a : α, (t.d a).dep ≤ n
instance : Dep rInt 0 := ⟨fun a => Nat.le_refl _⟩
instance : Dep rBl 0 := ⟨fun a => Nat.le_refl _⟩
instance : Dep rTx 0 := ⟨fun a => Nat.le_refl _⟩
instance {α : Type} (r : Rp α) [t : Tod r] (n : Nat) [h : Dep r n] : Dep (rLst r) (n + 1) := ⟨fun a => Nat.succ_le_succ (depAll_le fun x hx => by obtain ⟨y, _, rfl⟩ := List.mem_map.mp hx; exact h.le y)⟩
instance {α : Type} (r : Rp α) [t : Tod r] (n : Nat) [h : Dep r n] : Dep (rTup r) (n + 1) := ⟨fun a => Nat.succ_le_succ (depAll_le fun x hx => by obtain ⟨y, _, rfl⟩ := List.mem_map.mp hx; exact h.le y)⟩
instance {α β : Type} (r : Rp α) (s : Rp β) [t : Tod r] [t' : Tod s] (n k : Nat) [h : Dep r n] [h' : Dep s k] : Dep (rPr r s) (max n k + 1) := ⟨fun a => by
  show Dt.dep (.tup [t.d a.1, t'.d a.2]) ≤ _
  simp only [Dt.dep, depAll]
  have := h.le a.1
  have := h'.le a.2
  omega⟩
/-- the types' names -/
def Dt.ty : Dt → String
  | .non => "NoneType" | .bl _ => "bool" | .int _ => "int" | .tx _ => "str" | .lst _ => "list" | .tup _ => "tuple"
section
variable {F0 H0 : Hp} {G : List Slot} {m m1 m2 : Md} {ta tb tc te tl : TE} {tt : TT} {t u : TS} {K : PySem.W.Frag} {nx : L2.St → Hp → Prop} {rt : VK} {bk ct : L2.St → Hp → Prop}
theorem dt_ty {F H : Hp} {v : V} {d : Dt} (h : rDt F v d) (e : Ex F H) : TyX K H v (.type d.ty) := by
  cases d with
  | non => unfold rDt at h; subst h; exact .base .non
  | bl b => unfold rDt at h; subst h; exact .base (.bl _)
  | int i => unfold rDt at h; subst h; exact .base (.int _)
  | tx s => unfold rDt at h; obtain ⟨h, _⟩ := h; subst h; exact .base (.str _)
  | lst xs => unfold rDt at h; obtain ⟨p, vs, rfl, h2, _⟩ := h; exact .base (.lst (e _ _ h2))
  | tup xs => unfold rDt at h; obtain ⟨p, vs, rfl, h2, _⟩ := h; exact .base (.tup (e _ _ h2))
theorem Ed.dT {b : List Nat} (h : Ed F0 H0 te G m rDt (.tx b)) : Ed F0 H0 te G m rTx b := fun σ F H E Q q => h σ F H E Q fun v F' H' g hv => q v F' H' g (by unfold rDt at hv; exact hv)
instance : Inhabited Dt := ⟨.non⟩
abbrev tI (K : PySem.W.Frag) (i : Nat) (T : String) : TE := tCB (rIsi K) (tCons (tVar i) (tCons (tC (.ty T)) tNil))
end
end LK
set_option Elab.async false
set_option linter.all false
set_option maxRecDepth 100000
set_option maxHeartbeats 4000000
set_option autoImplicit false
namespace LK
open PySem L2 PyProof.Rows PySem.Spec
/-- the list at q holds xs -/
def AtL {α : Type} (r : Rp α) (F H : Hp) (q : Addr) (xs : List α) : Prop := ∃ vs, H q = some (.lst vs) ∧ xs.length ≤ 16777216 ∧ Paired (r F) vs xs
theorem AtL.mo {α : Type} {r : Rp α} [h : Mo r] {F F' H H' : Hp} {q : Addr} {xs : List α} (e : Exs F F') (k : H' q = H q) (a : AtL r F H q xs) : AtL r F' H' q xs := by
  obtain ⟨vs, h1, h2, h3⟩ := a
  exact ⟨vs, by rw [k]; exact h1, h2, pmap (fun _ _ z => h.mo e z) h3⟩
theorem pmem {α β : Type} {R S : α → β → Prop} : ∀ {xs : List α} {ys : List β}, (∀ a b, a ∈ xs → R a b → S a b) → Paired R xs ys → Paired S xs ys
  | _, _, _, .nil => .nil
  | _, _, f, .cons h t => .cons (f _ _ List.mem_cons_self h) (pmem (fun a b ha hr => f a b (List.mem_cons_of_mem _ ha) hr) t)
theorem pin {α β : Type} {R : α → β → Prop} : ∀ {xs : List α} {ys : List β}, Paired R xs ys → ∀ a ∈ xs, ∃ b, R a b
  | _, _, .cons h t, a, ha => by
    rcases List.mem_cons.mp ha with e | e
    · subst e; exact ⟨_, h⟩
    · exact pin t a e
/-- an own list of own lists -/
def mLL {α : Type} (r : Rp α) (xss : List (List α)) : Mu := fun F H p S => ∃ qs, S = p :: qs ∧ (p :: qs).Nodup ∧ H p = some (.lst (qs.map V.ref)) ∧ xss.length ≤ 16777216 ∧ Paired (AtL r F H) qs xss
instance {α : Type} (r : Rp α) [h : Mo r] (xss : List (List α)) : MoM (mLL r xss) := ⟨fun e k ⟨qs, h1, h2, h3, h4, h5⟩ => ⟨qs, h1, h2, by rw [k _ (by rw [h1]; simp)]; exact h3, h4, pmem (fun q xs hq a => a.mo e (k q (by rw [h1]; simp [hq]))) h5⟩,
  fun ⟨qs, h1, h2, h3, h4, h5⟩ a ha => by
    rw [h1] at ha
    rcases List.mem_cons.mp ha with e | e
    · rw [e, h3]; exact fun z => nomatch z
    · obtain ⟨b, vs, z, _⟩ := pin h5 a e
      rw [z]; exact (fun z => nomatch z),
  fun ⟨qs, h1, h2, h3, h4, h5⟩ a ha o eo => by
    rw [h1] at ha
    rcases List.mem_cons.mp ha with e | e
    · rw [e, h3] at eo; cases eo; rfl
    · obtain ⟨b, vs, z, _⟩ := pin h5 a e
      rw [z] at eo; cases eo; rfl⟩
section
variable {F0 H0 : Hp} {G G' : List Slot} {m m1 m2 : Md} {ta tb tc te tl : TE} {tt : TT} {t u : TS} {K : PySem.W.Frag} {wi : TI} {g : TG} {nx : L2.St → Hp → Prop} {rt : VK} {bk ct : L2.St → Hp → Prop}
theorem at_set {α : Type} {r : Rp α} [h : Mo r] {F H : Hp} {q : Addr} {vs : List V} {ys : List α} (hy : ys.length ≤ 16777216) (hv : Paired (r F) vs ys) : ∀ {qs : List Addr} {xss : List (List α)} (n : Nat), qs.Nodup → qs[n]? = some q → Paired (AtL r F H) qs xss → Paired (AtL r F (upd H q (.lst vs))) qs (xss.set n ys)
  | _, _, n, _, hn, .nil => by simp at hn
  | x1 :: l1, y1 :: l2, 0, nd, hn, .cons a1 t1 => by
    have e : x1 = q := Option.some.inj hn
    subst e
    obtain ⟨d1, d2⟩ := List.nodup_cons.mp nd
    exact .cons ⟨vs, upd_same, hy, hv⟩ (pmem (fun b xs hb a => a.mo (Ex.refl F).s (upd_ne (fun z => d1 (z ▸ hb)))) t1)
  | x1 :: l1, y1 :: l2, n + 1, nd, hn, .cons a1 t1 => by
    obtain ⟨d1, d2⟩ := List.nodup_cons.mp nd
    have hn : l1[n]? = some q := hn
    have hq : q ∈ l1 := List.mem_of_getElem? hn
    exact .cons (a1.mo (Ex.refl F).s (upd_ne (fun z => d1 (z ▸ hq)))) (at_set hy hv n d2 hn t1)
end
end LK
set_option Elab.async false
set_option linter.all false
set_option maxRecDepth 100000
set_option maxHeartbeats 4000000
set_option autoImplicit false
namespace LK
open PySem L2 PyProof.Rows PySem.Spec
class Da {α : Type} (r : Rp α) where
  d : α → PyData
  dp : ∀ {F H : Hp} {K : PySem.W.Frag} {v : V} {a : α}, r F v a → Ex F H → Dp K H v (d a)
  lay : ∀ {F : Hp} {v : V} {a : α}, r F v a → (d a).canLay0 = true
  dep : Nat
  dep_le : ∀ a, (d a).depth ≤ dep
  eqv : ∀ a b, PyData.eqv (d a) (d b) = true ↔ a = b
instance : Da rInt where
  d := .int
  dp h _ := by rw [show _ = _ from h]; exact .int _
  lay _ := rfl
  dep := 0
  dep_le _ := Nat.le_refl _
  eqv a b := by simp only [PyData.eqv]; exact beq_iff_eq
instance : Da rBl where
  d := .bool
  dp h _ := by rw [show _ = _ from h]; exact .bl _
  lay _ := rfl
  dep := 0
  dep_le _ := Nat.le_refl _
  eqv a b := by simp only [PyData.eqv]; exact beq_iff_eq
instance : Da rTx where
  d a := .str ⟨a.toArray⟩
  dp h _ := by rw [h.1]; exact .str _
  lay {F v a} h := by
    show PyData.strOk ⟨a.toArray⟩ = true
    unfold PyData.strOk
    simp only [List.all_toArray, List.all_eq_true, decide_eq_true_eq]
    exact h.2.2
  dep := 0
  dep_le _ := Nat.le_refl _
  eqv a b := by simp only [PyData.eqv]; rw [beq_iff_eq]; simp
section
variable {α β : Type} {r : Rp α} {s : Rp β} [A : Da r] [B : Da s]
theorem dp_all {F H : Hp} {K : PySem.W.Frag} (e : Ex F H) : ∀ {vs : List V} {xs : List α}, Paired (r F) vs xs → DpAll K H vs (xs.map A.d)
  | _, _, .nil => .nil
  | _, _, .cons h t => .cons (A.dp h e) (dp_all e t)
theorem lay_all {F : Hp} : ∀ {vs : List V} {xs : List α}, Paired (r F) vs xs → PyData.canLayAll0 (xs.map A.d) = true
  | _, _, .nil => rfl
  | _, _, .cons h t => by
    rw [List.map_cons, PyData.canLayAll0, A.lay h, lay_all t]; rfl
theorem depth_all : ∀ xs : List α, PyData.depthAll (xs.map A.d) ≤ A.dep
  | [] => Nat.zero_le _
  | x :: xs => by
    rw [List.map_cons, PyData.depthAll]
    exact Nat.max_le.mpr ⟨A.dep_le x, depth_all xs⟩
theorem eqv_all : ∀ xs ys : List α, PyData.eqvAll (xs.map A.d) (ys.map A.d) = true ↔ xs = ys
  | [], [] => by simp [PyData.eqvAll]
  | [], _ :: _ => by simp [PyData.eqvAll]
  | _ :: _, [] => by simp [PyData.eqvAll]
  | x :: xs, y :: ys => by
    rw [List.map_cons, List.map_cons, PyData.eqvAll, Bool.and_eq_true, A.eqv x y, eqv_all xs ys, List.cons.injEq]
instance : Da (rLst r) where
  d xs := .list (xs.map A.d)
  dp h e := by
    obtain ⟨p, vs, rfl, h1, h2, h3⟩ := h
    exact .lst (SqL.of (e _ _ h1)) (dp_all e h3)
  lay h := by
    obtain ⟨p, vs, rfl, h1, h2, h3⟩ := h
    exact lay_all h3
  dep := A.dep + 1
  dep_le xs := by
    show PyData.depthAll _ + 1 ≤ _
    have := depth_all (A := A) xs
    omega
  eqv a b := by simp only [PyData.eqv]; exact eqv_all a b
instance : Da (rTup r) where
  d xs := .tuple (xs.map A.d)
  dp h e := by
    obtain ⟨p, vs, rfl, h1, h2, h3⟩ := h
    exact .tup (SqT.of (e _ _ h1)) (dp_all e h3)
  lay h := by
    obtain ⟨p, vs, rfl, h1, h2, h3⟩ := h
    exact lay_all h3
  dep := A.dep + 1
  dep_le xs := by
    show PyData.depthAll _ + 1 ≤ _
    have := depth_all (A := A) xs
    omega
  eqv a b := by simp only [PyData.eqv]; exact eqv_all a b
instance : Da (rPr r s) where
  d x := .tuple [A.d x.1, B.d x.2]
  dp h e := by
    obtain ⟨p, u, w, rfl, h1, h2, h3⟩ := h
    exact .tup (SqT.of (e _ _ h1)) (.cons (A.dp h2 e) (.cons (B.dp h3 e) .nil))
  lay h := by
    obtain ⟨p, u, w, rfl, h1, h2, h3⟩ := h
    show PyData.canLayAll0 [_, _] = true
    rw [PyData.canLayAll0, PyData.canLayAll0, PyData.canLayAll0, A.lay h2, B.lay h3]; rfl
  dep := max A.dep B.dep + 1
  dep_le x := by
    show max _ (max _ 0) + 1 ≤ _
    have h1 := A.dep_le x.1
    have h2 := B.dep_le x.2
    omega
  eqv a b := by
    obtain ⟨a1, a2⟩ := a
    obtain ⟨b1, b2⟩ := b
    simp only [PyData.eqv, PyData.eqvAll, Bool.and_true, Bool.and_eq_true, A.eqv, B.eqv, Prod.mk.injEq]
end
section
variable {F0 H0 : Hp} {G : List Slot} {m m1 m2 : Md} {ta tb te : TE} {K : PySem.W.Frag}
theorem da_shaped {α : Type} {r : Rp α} [A : Da r] (hd : A.dep ≤ 64) {F : Hp} {v : V} {a : α} (h : r F v a) : SeqAt.shaped (A.d a) = true := by
  unfold SeqAt.shaped
  rw [A.lay h, decide_eq_true (Nat.le_trans (A.dep_le a) hd)]; rfl
theorem ed_eqQ {α : Type} {r : Rp α} [DecidableEq α] [Mo r] [A : Da r] {x y : α} (hx : Ed F0 H0 ta G m1 r x) (hy : Ed F0 H0 tb G m2 r y) (hd : A.dep ≤ 64 := by decide) : Ed F0 H0 (tOp (rEqD K) ta tb) G m rBl (decide (x = y)) :=
  ed_bin hx hy fun v w F H g0 hv hw Q q =>
    ⟨_, _, A.dp hv (pk_now g0), A.dp hw (pk_now g0), da_shaped hd hv, da_shaped hd hw, q _ F H (Gr.refl g0.fh) (by show V.bl _ = V.bl _; congr 1; rw [Bool.eq_iff_iff, A.eqv, decide_eq_true_eq])⟩
end
section
variable {X : Cx} (K : PySem.W.Frag)
theorem kJoin {o e : Expr} {to te : TE} {apos pos : Pos} (ho : PE X o to) (he : PE X e te) (h : X.K = K := by rfl) (hs : starEach [e] X.env = [(false, eval e X.env)] := by rfl) (hbase : attributeBase o "join" X.env (eval o X.env) = eval o X.env := by rfl) (hline : (apos.endLine == pos.line) = true := by rfl) :
    PE X (.Call (.Attribute o "join" apos) [e] [] pos) (tM1 (rJoin K) to te) := by subst h; exact pe_join ho he hs hbase hline
end
end LK
namespace LK
open PySem L2
end LK
set_option Elab.async false
set_option linter.all false
set_option maxRecDepth 100000
set_option maxHeartbeats 4000000
set_option autoImplicit false
namespace LKX
open PySem PySem.W PySem.Calls PyProof.Rows PySem.HandSPX
section
variable {prog : Program} {w : World} {A : Around} {E : Value → Shared → Prop} {h : Heap} {g : Array GenState} {d : Drawn} {t : Nat} {os : OsState}
variable {nm q : Str} {C N : Addr} {bs bm : List Value} {hdct : Bool} {sn : List Str} {sub : List Value} {ab : Bool} {col : Option Bool} {dd : Option Addr} {k0 k1 k2 k3 k5 : Option Value}
/-- the bound ValueError.__init__ is called -/
theorem call_bwV {u e t0 : Addr} {rest : List Value} {Q : Value → Shared → Prop}
    (hC : h.get? C = some (excClassObj nm q C N bs bm hdct sn sub ab col dd k0 k1 k2 k3 k5 "ValueError.__new__")) (he : h.get? e = some (excO C t0)) (hu : h.get? u = some (kxs_mw "ValueError.__init__" e)) (hrest : rest.length ≤ sizeLine)
    (hq : ∀ h' t1, (∀ b o, b ≠ e → h.get? b = some o → h'.get? b = some o) → h'.get? e = some (excO C t1) → Q .none ⟨h', g, d, t, os⟩) :
    wpAny (model prog w) A (call (.ref u) rest) Q E ⟨h, g, d, t, os⟩ := by
  refine wpAny_call (codeAny_of_tree ?_)
  show wpAny _ A.in1 (callAny (.ref u) ⟨rest, []⟩) _ _ _
  simp only [callAny]
  refine wpAny_bind (wpAny_load hu ?_)
  simp only [kxs_mw, show (Value.type "method-wrapper" == Value.type "method" || Value.type "method-wrapper" == Value.type "builtin_function_or_method" || Value.type "method-wrapper" == Value.type "method-wrapper") = true by decide, if_true]
  refine W.KFB.if_so (by decide) ?_
  refine wpAny_bind (PySem.ESX.check_bound F.excBase_ValueError hC he rfl ?_)
  refine wpAny_bind (wpAny_pure (wpAny_pure ?_))
  refine ⟨Code.quiet_builtin _ (by decide +kernel), codeAny_builtin F.excBase_ValueError.initEntry ?_⟩
  rw [Around.under_plainId F.excBase_ValueError.init.plain _]
  wp_walk
  refine hq _ h.objs.size (fun b o hb ho => ?_) ?_
  · rw [Heap.get?_update_other _ _ (Ne.symm hb)]
    exact Heap.get?_push_of_some _ ho
  · rw [Heap.get?_update_self _ (Heap.get?_push_of_some _ he) rfl]
    rfl
end
/-- what the written part says of a class C whose __init__ stands at fI -/
structure SupC (prog : Program) (K : Frag) (mg : Str → Option Value) (C fI : Addr) (x : Str) (qual : Str) (params : Arguments) (body : List Stmt) (scope : Scope) (cda cc : Addr) : Prop where
  oex : L2.OexC K C
  fn : ∃ (oc : Value) (od : Option Addr) (kV doc pm : Value) (an : Option Addr) (ct : Value) (osl : Array (Option Value)), K.lookup fI = some ⟨oc, od, .func (ksFn x qual params body scope .none kV doc pm an (.ref cda) ct cc), osl⟩
  cod : codeIn K (.ref cda) qual = true
  fil : ∃ (ccl : Value) (cdd : Option Addr) (vs : Array Value) (ccs : Array (Option Value)) (file : Str) (tf : Tok), K.lookup cda = some ⟨ccl, cdd, .fields vs, ccs⟩ ∧ vs[2]? = some (.str file tf) ∧ ((prog.main.file : Str) == file) = true
  cel : ∃ (cl : Value) (cld : Option Addr) (csl : Array (Option Value)), K.lookup cc = some ⟨cl, cld, .cell (some (.ref C)), csl⟩
  sup : ks_superIn K C C "__init__" = some (some (.builtin "ValueError.__init__"))
  self : mroIn K C (.ref C) = some true
  ve : subIn K (.ref C) (.type "ValueError") = some true
  nosup : mg "super" = none
  nothird : nsIn K cStatics "thirdparty.any" = some none
  top : (prog.main.scope.names.lookup ("super" : Str)).isSome = false
section
variable {prog : Program} {w : World} {A : Around} {E : Value → Shared → Prop} {h : Heap} {g : Array GenState} {d : Drawn} {t : Nat} {os : OsState} {K : Frag} {mg m : Str → Option Value} {C fI cda cc e t0 L : Addr} {x qual : Str} {params : Arguments} {body : List Stmt} {scope : Scope}
theorem super_init {p0 p1 p2 p3 p4 p5 : Pos} {k : Nat} {c : Str} {ar : Arg} {pl : Sem Bool} {Q : Flow → Shared → Prop} (S : SupC prog K mg C fI x qual params body scope cda cc) (X : K.In h) (gl : h.Ns mainGlobals mg) (bl : ∃ mb, h.Ns builtinsNs mb ∧ ∀ x : Str, x ≠ "__name__" → mb x = bootBuiltins x)
    (hns : h.Ns L m) (hp : (params.posonlyargs ++ params.args).head? = some ar) (hv : m ar.arg = some (.ref e)) (he : h.get? e = some (excO C t0))
    (hks : scope.names.lookup ("super" : Str) = some .globalImplicit) (hkc : scope.names.lookup ("__class__" : Str) = some .free) (hka : scope.names.lookup ar.arg = some .local) (hk : scope.kind = .function)
    (hev : eval (.Call (.Attribute (.Call (.Name "super" p0) [] [] p1) "__init__" p2) [.Constant (.str c) k p3] [] p4) (ksEnv qual scope L fI (.ref cda) cc) = (do
      let ov ← attributeBase (.Call (.Name "super" p0) [] [] p1) "__init__" (ksEnv qual scope L fI (.ref cda) cc) (eval (.Call (.Name "super" p0) [] [] p1) (ksEnv qual scope L fI (.ref cda) cc))
      standAt p2.atName
      let (f, first) ← holding [ov] (getMethod ov "__init__" pl)
      callWith p4 f first (backTo p4 (starEach [.Constant (.str c) k p3] (ksEnv qual scope L fI (.ref cda) cc))) []))
    (hi : interactive (ksEnv qual scope L fI (.ref cda) cc) = false) (hs : swapsWith (.Call (.Attribute (.Call (.Name "super" p0) [] [] p1) "__init__" p2) [.Constant (.str c) k p3] [] p4) none p5.line (ksEnv qual scope L fI (.ref cda) cc) = pure false)
    (hse : starEach [.Constant (.str c) k p3] (ksEnv qual scope L fI (.ref cda) cc) = (false, eval (.Constant (.str c) k p3) (ksEnv qual scope L fI (.ref cda) cc)) :: starEach [] (ksEnv qual scope L fI (.ref cda) cc)) 
    (hq : ∀ h' t' t1, (∀ b o, b ≠ e → h.get? b = some o → h'.get? b = some o) → h'.get? e = some (excO C t1) → Q .next ⟨h', g, d, t', os⟩) :
    _root_.PySem.wpAt (model prog w) A (.func body (ksEnv qual scope L fI (.ref cda) cc)) (exec (.Expr (.Call (.Attribute (.Call (.Name "super" p0) [] [] p1) "__init__" p2) [.Constant (.str c) k p3] [] p4) p5) (ksEnv qual scope L fI (.ref cda) cc)) Q E ⟨h, g, d, t, os⟩ := by
  obtain ⟨oc, od, kV, doc, pm, an, ct, osl, hf⟩ := S.fn
  obtain ⟨ccl, cdd, vs, ccs, file, tf, hcode, hvs, hfile⟩ := S.fil
  obtain ⟨cl, cld, csl, hcell⟩ := S.cel
  obtain ⟨nm, q, N, bs, bm, sn, sub, ab, col, dd, k0, k1, k2, k3, k5, hC, hbm⟩ := S.oex.cls
  obtain ⟨mb, b1, b2⟩ := bl
  have I : InstAt h e (excO C t0) C none := ⟨he, rfl, rfl, trivial⟩
  refine ks_wpAt_Expr_any (ks_wpAt_MethodCall (pl := pl) ?_ hev) hi hs
  refine ks_wpAt_super_base (env := ksEnv qual scope L fI (.ref cda) cc) hks hkc rfl rfl (X _ _ hf) rfl hp rfl (X _ _ hcode) rfl hvs hfile S.top ?_
  refine ks_loadName_global hk hks (loadGlobal_builtin (env := ksEnv qual scope L fI (.ref cda) cc) gl S.nosup b1 ((b2 _ (by decide)).trans (show bootBuiltins "super" = some (.type "super") from PyProof.Rows.Boot.super)) ⟨rfl, ?_⟩)
  refine wpAny_loadName_free hk hkc rfl ⟨_, X _ _ hcell, rfl⟩ ?_
  refine wpAny_loadName_local hk hka hns hv ?_
  refine ks_wpAny_isType_cls (X _ _ hC) rfl ⟨rfl, ?_⟩
  refine ks_wpAny_call_super (X _ _ hC) rfl he rfl (fun c z => by cases z) (looks_mroIn X S.self) (fun h1 e1 u1 => ?_)
  have X1 : K.In h1 := X.keeps u1
  have I1 : InstAt h1 e (excO C t0) C none := ⟨u1 _ _ he, rfl, rfl, trivial⟩
  have hcl : clsIn K C = some { name := nm, bases := bs, mro := .ref C :: bm, ns := N, qualname := q, hasDict := true, slotNames := sn, subclasses := sub, abstract := ab, collection := col, hasDel := false } := by unfold clsIn; rw [hC] <;> rfl
  have hm := S.sup
  unfold ks_superIn at hm
  rw [hcl] at hm
  refine kxs_getMethod kxs_ValueError e1 (looks_opaque X1 S.nothird) (l₀ := .ref C :: bm) (fun A Q E s k q => wpAny_bind ((looks_clsIn X1 hcl) A _ E s k (wpAny_pure q))) rfl X1 hm (I1.type.andThen (looks_subIn X1 S.ve)) (ks_ne X1 I1 hcl) rfl ?_
  have u2 : ∀ b o, h1.get? b = some o → (h1.push (kxs_mw "ValueError.__init__" e)).get? b = some o := fun b o z => Heap.get?_push_of_some _ z
  rw [hse]
  refine kxs_callWith (i := "ValueError.__init__") (x := e) rfl (evalArgs_plain ?_)
  refine args_cons (Constant_str (args_nil ⟨Heap.get?_push_size _ rfl, ?_⟩)) hse
  refine call_bwV (rest := [.str c (t + 1)]) (u2 _ _ (X1 _ _ hC)) (u2 _ _ (u1 _ _ he)) (Heap.get?_push_size _ rfl) (by show 1 ≤ sizeLine; decide) (fun h' t1 k e' => ?_)
  exact hq h' _ t1 (fun b o hb z => k b o hb (u2 _ _ (u1 _ _ z))) e'
/-- a field is kept: the first one -/
theorem fld_new {env : Env} {p1 p2 p3 p4 : Pos} {f xs xp : Str} {u : Value} {Q : Flow → Shared → Prop} (T : L2.OexC K C) (X : K.In h) (hns : h.Ns env.locals m) (hk : env.scope.kind = .function)
    (l1 : env.kindOf xs = some .local) (v1 : m xs = some (.ref e)) (l2 : env.kindOf xp = some .local) (v2 : m xp = some u) (d1 : (xs == ("__debug__" : Str)) = false) (d2 : (xp == ("__debug__" : Str)) = false)
    (he : h.get? e = some (excO C t0)) (hno : findIn K (.ref C) f = some none)
    (hs : swapsWith (.Name xp p4) (some (.Attribute (.Name xs p1) f p2)) p3.line env = pure false)
    (hq : ∀ h' t' dx, (∀ b o, b ≠ e → h.get? b = some o → h'.get? b = some o) → h.objs.size ≤ dx → dx ≠ e →
      h'.get? e = some { cls := .ref C, dict := some dx, data := .fields #[.ref t0, .none, .none, .none, .bool false, .none] } → h'.Ns1 dx (fun y => if y = f then some u else none) → Q .next ⟨h', g, d, t', os⟩) :
    wpAny (model prog w) A (exec (.Assign [.Attribute (.Name xs p1) f p2] (.Name xp p4) p3) env) Q E ⟨h, g, d, t, os⟩ := by
  obtain ⟨nm, q, N, bs, bm, sn, sub, ab, col, dd, k0, k1, k2, k3, k5, hC, hbm⟩ := T.cls
  have hcl : clsIn K C = some { name := nm, bases := bs, mro := .ref C :: bm, ns := N, qualname := q, hasDict := true, slotNames := sn, subclasses := sub, abstract := ab, collection := col, hasDel := false } := by unfold clsIn; rw [hC] <;> rfl
  refine plainObj_wpAny_Assign_Attribute (wpAny_Name (wpAny_loadName_local hk l2 hns v2 (wpAny_Name (wpAny_loadName_local hk l1 hns v1 ?_) d1)) d2) hs
  refine set_plain X (ox := excO C t0) (od := none) ⟨he, rfl, rfl, trivial⟩ T.sa ?_
  exact exc_osa X he hcl (show refsVE (.ref C :: bm) = true from hbm) rfl hno (fun h' tk' dx k dn dne hx hn => hq h' _ dx k dn dne hx hn)
/-- what a made exception looks like -/
def Made (h h' : Heap) (e C : Addr) (mA : Str → Option Value) : Prop := ∃ dx t1, (∀ b o, b ≠ e → h.get? b = some o → h'.get? b = some o) ∧ h.objs.size ≤ dx ∧ dx ≠ e ∧
  h'.get? e = some { cls := .ref C, dict := some dx, data := .fields #[.ref t1, .none, .none, .none, .bool false, .none] } ∧ h'.Ns1 dx mA
variable {R : Result → Shared → Prop}
/-- the whole __init__ with one field -/
theorem init1 {s0 : Stmt} {p0 p1 p2 p3 p4 p5 q1 q2 q3 q4 : Pos} {k : Nat} {c f xs xp : Str} {ar : Arg} {pl : Sem Bool} {u : Value} (S : SupC prog K mg C fI x qual params [.Expr (.Call (.Attribute (.Call (.Name "super" p0) [] [] p1) "__init__" p2) [.Constant (.str c) k p3] [] p4) p5, .Assign [.Attribute (.Name xs q1) f q2] (.Name xp q4) q3] scope cda cc) (X : K.In h) (gl : h.Ns mainGlobals mg) (bl : ∃ mb, h.Ns builtinsNs mb ∧ ∀ x : Str, x ≠ "__name__" → mb x = bootBuiltins x)
    (lim : h.NoLimit) (room : A.depth < recursionLimit) (he : h.get? e = some (excO C t0)) (hke : K.lookup e = none)
    (hbind : ∀ (kV doc pm : Value) (an : Option Addr) (ct : Value), BindsTo (⟨h, g, d, t, os⟩ : Shared) (ksFn x qual params [.Expr (.Call (.Attribute (.Call (.Name "super" p0) [] [] p1) "__init__" p2) [.Constant (.str c) k p3] [] p4) p5, .Assign [.Attribute (.Name xs q1) f q2] (.Name xp q4) q3] scope .none kV doc pm an (.ref cda) ct cc) ⟨[.ref e, u], []⟩ [(xs, .ref e), (xp, u)])
    (hp : (params.posonlyargs ++ params.args).head? = some ar) (har : ar.arg = xs) (hne : xs ≠ xp)
    (hks : scope.names.lookup ("super" : Str) = some .globalImplicit) (hkc : scope.names.lookup ("__class__" : Str) = some .free) (hka : scope.names.lookup xs = some .local) (hkb : scope.names.lookup xp = some .local) (hk : scope.kind = .function)
    (hcell : ∀ x ∈ scope.names, x.2 ≠ .cell) (hco : scope.isCoroutine = false) (hgen : scope.isGenerator = false) (hno : findIn K (.ref C) f = some none)
    (hev : ∀ L, eval (.Call (.Attribute (.Call (.Name "super" p0) [] [] p1) "__init__" p2) [.Constant (.str c) k p3] [] p4) (ksEnv qual scope L fI (.ref cda) cc) = (do
      let ov ← attributeBase (.Call (.Name "super" p0) [] [] p1) "__init__" (ksEnv qual scope L fI (.ref cda) cc) (eval (.Call (.Name "super" p0) [] [] p1) (ksEnv qual scope L fI (.ref cda) cc))
      standAt p2.atName
      let (f, first) ← holding [ov] (getMethod ov "__init__" pl)
      callWith p4 f first (backTo p4 (starEach [.Constant (.str c) k p3] (ksEnv qual scope L fI (.ref cda) cc))) []))
    (hi : ∀ L, interactive (ksEnv qual scope L fI (.ref cda) cc) = false) (hs : ∀ L, swapsWith (.Call (.Attribute (.Call (.Name "super" p0) [] [] p1) "__init__" p2) [.Constant (.str c) k p3] [] p4) none p5.line (ksEnv qual scope L fI (.ref cda) cc) = pure false)
    (hse : ∀ L, starEach [.Constant (.str c) k p3] (ksEnv qual scope L fI (.ref cda) cc) = (false, eval (.Constant (.str c) k p3) (ksEnv qual scope L fI (.ref cda) cc)) :: starEach [] (ksEnv qual scope L fI (.ref cda) cc))
    (hs2 : ∀ L, swapsWith (.Name xp q4) (some (.Attribute (.Name xs q1) f q2)) q3.line (ksEnv qual scope L fI (.ref cda) cc) = pure false)
    (d1 : (xs == ("__debug__" : Str)) = false) (d2 : (xp == ("__debug__" : Str)) = false)
    (hq : ∀ h' t', Made h h' e C (fun y => if y = f then some u else none) → R (.ok (.ret .none)) ⟨h', g, d, t', os⟩) :
    codeAny (model prog w) A (.call (.ref fI) ⟨[.ref e, u], []⟩) R ⟨h, g, d, t, os⟩ := by
  obtain ⟨oc, od, kV, doc, pm, an, ct, osl, hf⟩ := S.fn
  refine ks_codeAny_call_defAt (binds := [(xs, .ref e), (xp, u)]) room (X _ _ hf) rfl lim (codeRec_of X S.cod) rfl (hbind _ _ _ _ _) hcell ?_ (fun h1 hns k1 => ?_) hco hgen hk
  · intro y hy
    rcases List.mem_cons.mp hy with e1 | hy
    · subst e1; exact hka
    · rcases List.mem_cons.mp hy with e1 | hy
      · subst e1; exact hkb
      · cases hy
  have X1 : K.In h1 := X.keeps k1
  have v1 : (List.lookup xs [(xs, Value.ref e), (xp, u)].reverse) = some (.ref e) := by
    show List.lookup xs [(xp, u), (xs, Value.ref e)] = _
    rw [List.lookup_cons, show (xs == xp) = false by simpa using hne, List.lookup_cons, show (xs == xs) = true by simp]
  have v2 : (List.lookup xp [(xs, Value.ref e), (xp, u)].reverse) = some u := by
    show List.lookup xp [(xp, u), (xs, Value.ref e)] = _
    rw [List.lookup_cons, show (xp == xp) = true by simp]
  obtain ⟨mb, b1, b2⟩ := bl
  refine ks_wpAt_execs_cons (super_init (m := fun y => List.lookup y [(xs, Value.ref e), (xp, u)].reverse) S X1 (gl.keeps k1) ⟨mb, b1.keeps k1, b2⟩ hns hp (by rw [har]; exact v1) (k1 _ _ he) hks hkc (by rw [har]; exact hka) hk (hev _) (hi _) (hs _) (hse _) (fun h2 t2 t3 k2 e2 => ?_))
  have X2 : K.In h2 := fun b o z => k2 b o (fun q => by rw [q, hke] at z; cases z) (X1 b o z)
  have hLe : h.objs.size ≠ e := fun q => absurd (Heap.lt_size he) (by rw [← q]; exact Nat.lt_irrefl _)
  have hns2 : h2.Ns h.objs.size (fun y => List.lookup y [(xs, Value.ref e), (xp, u)].reverse) := by
    obtain ⟨oL, es, ep, hL, r⟩ := hns
    exact ⟨oL, es, ep, k2 _ _ hLe hL, r⟩
  have sz : h.objs.size ≤ h2.objs.size := by
    obtain ⟨oL, es, ep, hL, r⟩ := hns2
    exact Nat.le_of_lt (Heap.lt_size hL)
  refine ks_wpAt_execs_cons (wpAt_of_wpAny ?_)
  refine fld_new (m := fun y => List.lookup y [(xs, Value.ref e), (xp, u)].reverse) S.oex X2 hns2 hk hka v1 hkb v2 d1 d2 e2 hno (hs2 _) (fun h3 t4 dx k3 n3 ne3 e3 hd3 => ?_)
  refine wpAt_of_wpAny (wpAny_pure ?_)
  exact hq h3 _ ⟨dx, t3, fun b o hb z => k3 b o hb (k2 b o hb (k1 b o z)), Nat.le_trans sz n3, ne3, e3, hd3⟩
end
end LKX
set_option Elab.async false
set_option linter.all false
set_option maxRecDepth 100000
set_option maxHeartbeats 4000000
set_option autoImplicit false
namespace LKX
open PySem PySem.W PySem.Calls PyProof.Rows PySem.HandSPX L2
/-- the reading: what C(e) makes -/
def tMk1 (C : Addr) (f : Str) (ta : TA) : L2.St → Hp → XK → Prop := fun σ H Q => ta σ H fun vs H1 => ∃ y, vs = [y] ∧ ∀ dx, H1 dx = none → Q (.ref C) (some dx) (upd H1 dx (.xd [(f, y)]))
section
variable {X : Cx} {x : Str} {C fI : Addr} {f : Str} {e1 : Expr} {ta : TA} {p pos : Pos}
/-- what init1 gives, as a promise of the class -/
def Ini1 (prog : Program) (w : World) (K : Frag) (mg : Str → Option Value) (C fI : Addr) (f : Str) : Prop :=
  ∀ (A : Around) (R : Result → Shared → Prop) (h : Heap) (g : Array GenState) (d : Drawn) (t : Nat) (os : OsState) (e t0 : Addr) (u : Value), K.In h → h.Ns mainGlobals mg → (∃ mb, h.Ns builtinsNs mb ∧ ∀ x : Str, x ≠ "__name__" → mb x = bootBuiltins x) → h.NoLimit → A.depth < recursionLimit → h.get? e = some (excO C t0) → K.lookup e = none →
    (∀ h' t', Made h h' e C (fun y => if y = f then some u else none) → R (.ok (.ret .none)) ⟨h', g, d, t', os⟩) → codeAny (model prog w) A (.call (.ref fI) ⟨[.ref e, u], []⟩) R ⟨h, g, d, t, os⟩
theorem pmk_sup1 {k : Nat} (T : OexC X.K C) (iC : PySem.W.findIn X.K (.ref C) "__init__" = some (some (.ref fI))) (tI : PySem.W.typeIn X.K (.ref fI) = some (.type "function")) (J : Ini1 X.prog X.w X.K X.mg C fI f)
    (hr : Room (k + 1) X.A) (hg : Gl X x) (hm : X.mg x = some (.ref C)) (ha : PA X [e1] ta)
    (hdb : (x == ("__debug__" : Str)) = false := by decide) (he : starEach [e1] X.env = (false, eval e1 X.env) :: starEach [] X.env := by rfl) :
    PMk X (.Call (.Name x p) [e1] [] pos) (tMk1 C f ta) := by
  intro pins s σ H Q I h
  obtain ⟨nm, q, N, bs, bm, sn, sub, ab, col, dd, k0, k1, k2, k3, k5, hC, hbm⟩ := T.cls
  refine wpAny_Call_Name_kw (ld_glob I hg hm ?_ hdb)
  refine PySem.W.callWith_K (h₀ := X.base) I.ok.mod.kin T.kC (thn (ha.run pos pins s σ H _ I h) fun us s1 ⟨vs, H1, I1, r1, y, ev, q1⟩ => ⟨I1.kIn, ?_⟩) he rfl
  show wpAny _ _ (call (.ref C) us) _ _ _
  subst ev
  obtain ⟨u, rfl, ry⟩ := vals1 r1
  obtain ⟨hp, g, dr, tk, os⟩ := s1
  have kk : ∀ b o, hp.get? b = some o → ((hp.push (PySem.W.kdv_tup [u])).push (PySem.HandSPX.excO C hp.objs.size)).get? b = some o := fun b o e => Heap.get?_push_of_some _ (Heap.get?_push_of_some _ e)
  have hget : ((hp.push (PySem.W.kdv_tup [u])).push (PySem.HandSPX.excO C hp.objs.size)).get? (hp.objs.size + 1) = some (PySem.HandSPX.excO C hp.objs.size) := by heap_get
  have hno : ∀ o, hp.get? (hp.objs.size + 1) ≠ some o := fun o z => absurd (Heap.lt_size z) (Nat.not_lt_of_le (Nat.le_succ _))
  have hkn : X.K.lookup (hp.objs.size + 1) = none := by
    cases z : X.K.lookup (hp.objs.size + 1) with
    | none => rfl
    | some o => exact absurd (I1.kIn _ _ z) (hno o)
  have hn : H1 (hp.objs.size + 1) = none := I1.hok.fresh (Nat.le_succ _)
  obtain ⟨mb, b1, b2⟩ := I1.mod.blt
  refine wpAny_call (PySem.HandSPX.call_own F.excBase_ValueError (fun Y => PySem.HandSPX.refsVE_contains Y bm hbm) (I1.kIn _ _ hC) (PySem.W.looks_findIn I1.kIn iC) (fun self => PySem.W.bind_fn I1.kIn self tI) (by show 1 ≤ sizeLine; decide)
    (J _ _ _ _ _ _ _ (hp.objs.size + 1) hp.objs.size u (I1.kIn.keeps kk) ((I1.mod.glob.keeps I1.bk).keeps kk) ⟨mb, (b1.keeps I1.bk).keeps kk, b2⟩ ((I1.mod.nolimit.keeps I1.bk).keeps kk) (hr.make C [u] []).depth hget hkn (fun h' t' M => ?_)))
  obtain ⟨dx, t1, m1, m2, m3, m4, m5⟩ := M
  have hsz : hp.objs.size ≤ dx := Nat.le_trans (by rw [Heap.size_push, Heap.size_push]; omega) m2
  obtain ⟨G, g1', g2'⟩ := restrict h' fun b => decide (b ≠ hp.objs.size + 1)
  have gk : ∀ b, b ≠ hp.objs.size + 1 → G.get? b = h'.get? b := fun b hb => g1' b (decide_eq_true hb)
  have ge : G.get? (hp.objs.size + 1) = none := g2' _ (by simp)
  have nha : ∀ {b : Addr} {o : Obj}, hp.get? b = some o → b ≠ hp.objs.size + 1 := fun {b o} z e => hno o (e ▸ z)
  have kG : ∀ b o, hp.get? b = some o → G.get? b = some o := fun b o z => by rw [gk b (nha z)]; exact m1 b o (nha z) (kk b o z)
  have rel : ∀ g, RelO ([(f, y)].lookup g) (if g = f then some u else none) := relO_put (fs := []) (mA := fun _ => none) ry fun _ => True.intro
  have I2 : Inv X pins σ (upd H1 dx (.xd [(f, y)])) ⟨G, g, dr, t', os⟩ := I1.laid (t' := t') kG hsz (show ObjOk X.prog X.w _ _ _ (.xd [(f, y)]) from ⟨_, m5.at fun o z => (gk dx m3).trans z, rel⟩)
  refine ⟨rfl, hp.objs.size + 1, _, _, ⟨G, g, dr, t', os⟩, _, .ref C, some dx, rfl, I2, fun b o z => ?_, ge, m4, ⟨rfl, rfl⟩, rfl, rfl, ?_, rfl, I1.bare, raises_own T.exC T.tyC, q1 dx (I1.hok.fresh hsz)⟩
  · by_cases hb : b = hp.objs.size + 1
    · rw [hb, ge] at z; cases z
    · exact (gk b hb).symm.trans z
  · rw [upd_ne (Ne.symm m3)]; exact hn
end
end LKX
set_option Elab.async false
set_option linter.all false
set_option maxRecDepth 100000
set_option maxHeartbeats 4000000
set_option autoImplicit false
namespace LKX
open PySem PySem.Spec PyProof.Rows L2
section
end
end LKX
set_option Elab.async false
set_option linter.all false
set_option maxRecDepth 100000
set_option maxHeartbeats 4000000
set_option autoImplicit false
namespace LK
open PySem PySem.Spec PyProof.Rows L2 LKX
/-- an error: its kind, its fields -/
abbrev Er := Nat × List Dt
structure XT where
  cls : Nat → Addr
  flds : Nat → List Str
def rEr (T : XT) (F : Hp) (cls : Value) (d : Option Addr) (er : Er) : Prop :=
  cls = .ref (T.cls er.1) ∧ ∃ dd fs, d = some dd ∧ F dd = some (.xd fs) ∧ ∀ (i : Nat) (f : Str) (x : Dt), (T.flds er.1)[i]? = some f → er.2[i]? = some x → ∃ v, fs.lookup f = some v ∧ rDt F v x
theorem rEr.mo {T : XT} {F F' : Hp} {cls : Value} {d : Option Addr} {er : Er} (h : rEr T F cls d er) (e : Exs F F') : rEr T F' cls d er := by
  obtain ⟨h1, dd, fs, h2, h3, h4⟩ := h
  refine ⟨h1, dd, fs, h2, e.at_ h3 rfl, fun i f x a b => ?_⟩
  obtain ⟨v, z1, z2⟩ := h4 i f x a b
  exact ⟨v, z1, mox' e z2⟩
where mox' {F F' : Hp} {v : V} {x : Dt} (e : Exs F F') (h : rDt F v x) : rDt F' v x := rDt_mo e h
/-- what is wanted of an error that leaves -/
def ErK (T : XT) (F H : Hp) (E : XK) (er : Er) : Prop := ∀ cls d F' H', Gr F H F' H' → rEr T F' cls d er → E cls d H'
section
variable {F0 H0 : Hp} {G : List Slot} {m m1 m2 : Md} {ta tb te : TE} {t : TA} {K : PySem.W.Frag} {T : XT}
variable {nx : L2.St → Hp → Prop} {rt : VK} {bk ct : L2.St → Hp → Prop}
/-- raise C(e) -/
theorem gk_raise1 {α : Type} {r : Rp α} [Mo r] [Tod r] {a : α} {C : Addr} {f : Str} {W : WX} {D : Ends} {k : Nat} (h : Ed F0 H0 te G .sh r a) (hC : T.cls k = C) (hf : T.flds k = [f])
    (hx : ∀ σ F H, EnvOk F0 H0 G σ F H → ∀ cls d, rEr T F cls d (k, [Tod.d r a]) → W cls d σ H) : Gk F0 H0 (fun σ H => tMk1 C f (tCons te tNil) σ H fun cls d H' => W cls d σ H') G := fun σ F H E =>
  h σ F H E _ fun v F1 H1 g1 hv => ⟨v, rfl, fun dx hd => by
    have n := Ex.new (o := .xd [(f, v)]) (g1.fh.back hd)
    refine hx σ (upd F1 dx (.xd [(f, v)])) _ (E.gro (g1.trans (Gr.new g1.fh hd))) _ _ ⟨by rw [← hC], dx, _, rfl, upd_same, fun i g x e1 e2 => ?_⟩
    rw [hf] at e1
    cases i with
    | zero =>
      have e1 : f = g := Option.some.inj e1
      have e2 : Tod.d r a = x := Option.some.inj e2
      subst e1; subst e2
      exact ⟨v, by simp [List.lookup], Tod.to (mox n hv)⟩
    | succ i => simp at e1⟩
end
/-- v: the caught one at a, of the class cls, its dict at d -/
def rXc (T : XT) (a : Addr) (cls : Value) (d : Option Addr) : Rp Er := fun F v er => v = .ref a ∧ rEr T F cls d er
instance (T : XT) (a : Addr) (cls : Value) (d : Option Addr) : Mo (rXc T a cls d) := ⟨fun e h => ⟨h.1, h.2.mo e⟩⟩
section
end
section
end
end LK
namespace LK
open PySem PySem.Spec L2 LKX
end LK
namespace LK
open PySem PySem.Spec L2 LKX
end LK
set_option Elab.async false
set_option linter.all false
set_option maxRecDepth 100000
set_option maxHeartbeats 4000000
set_option autoImplicit false
namespace LKX
open PySem PySem.Spec PyProof.Rows L2
end LKX
namespace LK
open PySem PySem.Spec PyProof.Rows L2 LKX
end LK
namespace LK
open PySem PySem.Spec PyProof.Rows L2
/-- a module's constant -/
theorem w_glob {X : Cx} {x : Str} {v : V} {pos : Pos} (h : ∃ u, X.mg x = some u ∧ RelV v u) (hg : Gl X x := by rfl) (hd : (x == ("__debug__" : Str)) = false := by decide) : PE X (.Name x pos) (tC v) :=
  let ⟨_, h1, h2⟩ := h; pe_glob hg h1 h2 hd
end LK
namespace LKX
open PySem PySem.Spec PyProof.Rows L2 LK
/-- what a law knows of an error's class with one field, by its name -/
structure Xk (P : Program) (w : World) (K : PySem.W.Frag) (mg : Str → Option Value) (xt : XT) (x : Str) (k : Nat) (f : Str) : Prop where
  gC : mg x = some (.ref (xt.cls k))
  T : OexC K (xt.cls k)
  ini : ∃ fI, PySem.W.findIn K (.ref (xt.cls k)) "__init__" = some (some (.ref fI)) ∧ PySem.W.typeIn K (.ref fI) = some (.type "function") ∧ Ini1 P w K mg (xt.cls k) fI f
  flds : xt.flds k = [f]
theorem pmk_xk {X : Cx} {xt : XT} {x f : Str} {k j : Nat} {e1 : Expr} {ta : TA} {p pos : Pos} (J : Xk X.prog X.w X.K X.mg xt x k f) (hr : Room (j + 1) X.A) (ha : PA X [e1] ta) (hg : Gl X x := by rfl)
    (hdb : (x == ("__debug__" : Str)) = false := by decide) (he : starEach [e1] X.env = (false, eval e1 X.env) :: starEach [] X.env := by rfl) : PMk X (.Call (.Name x p) [e1] [] pos) (tMk1 (xt.cls k) f ta) :=
  let ⟨_, a, b, c⟩ := J.ini; pmk_sup1 J.T a b c hr hg J.gC ha hdb he
theorem ps_raise1 {X : Cx} {W : WX} {xt : XT} {x f : Str} {k j : Nat} {e1 : Expr} {ta : TA} {p pos pos2 : Pos} (J : Xk X.prog X.w X.K X.mg xt x k f) (hr : Room (j + 1) X.A) (tk : Takes X W) (ha : PA X [e1] ta) (hc : X.calm = true := by rfl) (hg : Gl X x := by rfl)
    (hdb : (x == ("__debug__" : Str)) = false := by decide) (he : starEach [e1] X.env = (false, eval e1 X.env) :: starEach [] X.env := by rfl) :
    PS X (.Raise (some (.Call (.Name x p) [e1] [] pos)) none pos2) (fun _ σ H => tMk1 (xt.cls k) f ta σ H fun cls d H' => W cls d σ H') := ps_raise hc tk (pmk_xk J hr ha hg hdb he)
end LKX
set_option Elab.async false
set_option linter.all false
set_option maxRecDepth 100000
set_option maxHeartbeats 4000000
set_option autoImplicit false
/-- an answer: a datum, an error, nothing known -/
inductive R (ε α : Type) : Type
  | ok (a : α)
  | er (e : ε)
  | no
namespace R
variable {ε δ α β : Type}
/-- one after the other, errors as they are -/
def bind (x : R ε α) (k : α → R ε β) : R ε β := match x with
  | .ok a => k a
  | .er e => .er e
  | .no => .no
/-- one after the other, errors told by g -/
def thn (x : R ε α) (g : ε → δ) (k : α → R δ β) : R δ β := match x with
  | .ok a => k a
  | .er e => .er (g e)
  | .no => .no
/-- where no error may leave -/
def noer (x : R ε α) : R δ α := match x with
  | .ok a => .ok a
  | _ => .no
/-- if it is so -/
def iff (c : Prop) [Decidable c] (x : R ε α) : R ε α := if c then x else .no
end R
namespace LJ
open PySem L2 LK LKX PyProof.Rows PySem.Spec
/-- no star ahead of it -/
def notStar : Expr → Bool
  | .Starred _ _ => false
  | _ => true
theorem star_cons {e : Expr} {es : List Expr} {env : Env} (h : notStar e = true) : starEach (e :: es) env = (false, eval e env) :: starEach es env := by
  cases e <;> first | rfl | cases h
def tE (X : Cx) (e : Expr) : TE := fun σ H Q => ∀ (pins : List (Addr × Obj)) (s : Shared), Inv X pins σ H s → wpAny (model X.prog X.w) X.A (eval e X.env) (EP X pins σ Q) X.xe s
def tT (X : Cx) (e : Expr) : TT := fun σ H Q => ∀ (pins : List (Addr × Obj)) (s : Shared), Inv X pins σ H s → wpAny (model X.prog X.w) X.A (isTrue e X.env (eval e X.env)) (TP X pins σ Q) X.xe s
def tW (X : Cx) (e : Expr) : TT := fun σ H Q => ∀ (wh : Sem Value) (pins : List (Addr × Obj)) (s : Shared), Inv X pins σ H s → wpAny (model X.prog X.w) X.A (isTrue e X.env wh) (TP X pins σ Q) X.xe s
def tA (X : Cx) (es : List Expr) : TA := fun σ H Q => ∀ (pos : Pos) (pins : List (Addr × Obj)) (s : Shared), Inv X pins σ H s → wpAny (model X.prog X.w) X.A (spliced (backTo pos (starEach es X.env))) (AP X pins σ Q) X.xe s
def tS (X : Cx) (st : List Stmt) : TS := fun D σ H => ∀ (pins : List (Addr × Obj)) (s : Shared), Inv X pins σ H s → wpAny (model X.prog X.w) X.A (execs st X.env) (SP X pins D) X.xe s
section
variable {X : Cx} {e : Expr} {es : List Expr} {st : List Stmt} {t : TE} {u : TT} {a : TA} {v : TS}
theorem pE : PE X e (tE X e) := ⟨fun pins s σ H Q I h => h pins s I⟩
theorem pT : PT X e (tT X e) := ⟨fun pins s σ H Q I h => h pins s I⟩
theorem pW : PW X e (tW X e) := ⟨fun wh pins s σ H Q I h => h wh pins s I⟩
theorem pA : PA X es (tA X es) := ⟨fun pos pins s σ H Q I h => h pos pins s I⟩
theorem pS : PSs X st (tS X st) := ⟨fun pins s σ H D I h => h pins s I⟩
theorem tE_le (h : PE X e t) {σ : L2.St} {H : Hp} {Q : VK} (q : t σ H Q) : tE X e σ H Q := fun pins s I => h.run pins s σ H Q I q
theorem tT_le (h : PT X e u) {σ : L2.St} {H : Hp} {Q : Bool → Hp → Prop} (q : u σ H Q) : tT X e σ H Q := fun pins s I => h.run pins s σ H Q I q
theorem tW_le (h : PW X e u) {σ : L2.St} {H : Hp} {Q : Bool → Hp → Prop} (q : u σ H Q) : tW X e σ H Q := fun wh pins s I => h.run wh pins s σ H Q I q
theorem tA_le (h : PA X es a) {σ : L2.St} {H : Hp} {Q : List V → Hp → Prop} (q : a σ H Q) : tA X es σ H Q := fun pos pins s I => h.run pos pins s σ H Q I q
theorem tS_le (h : PSs X st v) {σ : L2.St} {H : Hp} {D : Ends} (q : v D σ H) : tS X st D σ H := fun pins s I => h.run pins s σ H D I q
end
structure Cn where
  X : Cx
  T : XT
  W : WX
  tk : Takes X W
  nd : X.N.Nodup
/-- an error is in the air -/
def Dx (C : Cn) (F0 H0 : Hp) (t : TE) (G : List Slot) (e : Er) : Prop := ∀ σ F H, EnvOk F0 H0 G σ F H → (∀ F' H' cls d, Gr F H F' H' → rEr C.T F' cls d e → C.W cls d σ H') → ∀ Q : VK, t σ H Q
def Dr (C : Cn) {α : Type} (F0 H0 : Hp) (t : TE) (G : List Slot) (m : Md) (r : Rp α) : R Er α → Prop
  | .ok a => Ed F0 H0 t G m r a
  | .er e => Dx C F0 H0 t G e
  | .no => True
def Tx (C : Cn) (F0 H0 : Hp) (t : TT) (G : List Slot) (e : Er) : Prop := ∀ σ F H, EnvOk F0 H0 G σ F H → (∀ F' H' cls d, Gr F H F' H' → rEr C.T F' cls d e → C.W cls d σ H') → ∀ Q : Bool → Hp → Prop, t σ H Q
def Tr (C : Cn) (F0 H0 : Hp) (t : TT) (G : List Slot) : R Er Bool → Prop
  | .ok b => Et F0 H0 t G b
  | .er e => Tx C F0 H0 t G e
  | .no => True
/-- a thing in a slot of its own -/
def Dv (F0 H0 : Hp) (t : TE) (G : List Slot) (s : Slot) : Prop := ∀ σ F H, EnvOk F0 H0 G σ F H → ∀ Q : VK, (∀ v F' H', Gr F H F' H' → EnvOk F H [s] [some v] F' H' → Q v H') → t σ H Q
def Ds (C : Cn) {α : Type} (F0 H0 : Hp) (t : TE) (G : List Slot) (sb : α → Slot) : R Er α → Prop
  | .ok a => Dv F0 H0 t G (sb a)
  | .er e => Dx C F0 H0 t G e
  | .no => True
section
variable {C : Cn} {F0 H0 : Hp} {G : List Slot} {m m1 m2 : Md} {ta tb : TE}
theorem Dr.bind {α β : Type} {r : Rp α} {r' : Rp β} {x : R Er α} {f : α → R Er β} {t : TE} (h : Dr C F0 H0 ta G m r x) (hx : ∀ e, Dx C F0 H0 ta G e → Dx C F0 H0 t G e) (k : ∀ a, Ed F0 H0 ta G m r a → Dr C F0 H0 t G m1 r' (f a)) : Dr C F0 H0 t G m1 r' (x.bind f) := by
  cases x with
  | ok a => exact k a h
  | er e => exact hx e h
  | no => trivial
theorem Dr.le {α : Type} {r : Rp α} {x : R Er α} {t u : TE} (h : Dr C F0 H0 t G m r x) (le : ∀ σ H Q, t σ H Q → u σ H Q) : Dr C F0 H0 u G m r x := by
  cases x with
  | ok a => exact fun σ F H E Q q => le _ _ _ (h σ F H E Q q)
  | er e => exact fun σ F H E w Q => le _ _ _ (h σ F H E w Q)
  | no => trivial
theorem Ds.le {α : Type} {sb : α → Slot} {x : R Er α} {t u : TE} (h : Ds C F0 H0 t G sb x) (le : ∀ σ H Q, t σ H Q → u σ H Q) : Ds C F0 H0 u G sb x := by
  cases x with
  | ok a => exact fun σ F H E Q q => le _ _ _ (h σ F H E Q q)
  | er e => exact fun σ F H E w Q => le _ _ _ (h σ F H E w Q)
  | no => trivial
theorem Tr.le {x : R Er Bool} {t u : TT} (h : Tr C F0 H0 t G x) (le : ∀ σ H Q, t σ H Q → u σ H Q) : Tr C F0 H0 u G x := by
  cases x with
  | ok a => exact fun σ F H E Q q => le _ _ _ (h σ F H E Q q)
  | er e => exact fun σ F H E w Q => le _ _ _ (h σ F H E w Q)
  | no => trivial
end
structure XE (C : Cn) (e : Expr) (G : List Slot) (m : Md) {α : Type} (r : Rp α) (f : R Er α) : Prop where
  h : ∀ F0 H0, Dr C F0 H0 (tE C.X e) G m r f
structure XQ (C : Cn) (e : Expr) (G : List Slot) (f : R Er Bool) : Prop where
  h : ∀ F0 H0, Tr C F0 H0 (tT C.X e) G f
structure XW (C : Cn) (e : Expr) (G : List Slot) (f : R Er Bool) : Prop where
  h : ∀ F0 H0, Tr C F0 H0 (tW C.X e) G f
structure XN (C : Cn) (e : Expr) (G : List Slot) {α : Type} (sb : α → Slot) (f : R Er α) : Prop where
  h : ∀ F0 H0, Ds C F0 H0 (tE C.X e) G sb f
/-- what a block hands on: rs, ret: a return; slz: what is told of the slots at a return or an error; em: an error -/
structure Jn (β ρ ε Z : Type) where
  rs : β → Slot
  ret : β → Z → ρ
  slz : Z → List Slot
  em : Er → Z → ε
section
variable {β ρ ε Z S' : Type}
/-- what the answers mean -/
structure Ans (C : Cn) (J : Jn β ρ ε Z) (F0 H0 : Hp) (A : R ε ρ → Prop) (rt : VK) : Prop where
  no : ¬ A .no
  ret : ∀ b z, A (.ok (J.ret b z)) → ∀ σ F H v, EnvOk F0 H0 (J.rs b :: J.slz z) (some v :: σ) F H → rt v H
  er : ∀ e z, A (.er (J.em e z)) → ∀ σ F H cls d, EnvOk F0 H0 (J.slz z) σ F H → rEr C.T F cls d e → C.W cls d σ H
structure XB (C : Cn) (J : Jn β ρ ε Z) (st : List Stmt) (G : List Slot) (slk : S' → List Slot) (M : (S' → R ε ρ) → R ε ρ) : Prop where
  h : ∀ (F0 H0 : Hp) (A : R ε ρ → Prop) (D : Ends), Ans C J F0 H0 A D.rt → ∀ k : S' → R ε ρ, (∀ s', A (k s') → Gk F0 H0 D.nx (slk s')) → A (M k) → Gk F0 H0 (tS C.X st D) G
theorem Ans.down {C : Cn} {J : Jn β ρ ε Z} {F0 H0 F1 : Hp} {A : R ε ρ → Prop} {rt : VK} (a : Ans C J F0 H0 A rt) (b : Bs F0 H0 F1) : Ans C J F1 H0 A rt :=
  ⟨a.no, fun x z h σ F H v E => a.ret x z h σ F H v (E.down b), fun e z h σ F H cls d E => a.er e z h σ F H cls d (E.down b)⟩
end
section
variable {C : Cn} {G : List Slot} {m m1 m2 : Md} {a b : Expr} {pos : Pos}
theorem xv {α : Type} {r : Rp α} {im : Mo r} {x : Str} {g : α} (i : Nat) (h : G[i]? = some (.fz r im g) := by rfl) (hN : C.X.N[i]? = some x := by rfl) (hv : Vis C.X.env.scope x := by first | exact Or.inl rfl | exact Or.inr (Or.inl rfl) | exact Or.inr (Or.inr rfl)) (hd : (x == ("__debug__" : Str)) = false := by decide)
    (hcd : (x == ("__classdict__" : Str)) = false := by decide) : XE C (.Name x pos) G .sh r (.ok g) := ⟨fun F0 H0 σ F H E Q q => tE_le (pe_var hN hv hd hcd) (ed_v (F0 := F0) (H0 := H0) h σ F H E Q q)⟩
theorem xvb {α : Type} {r : Rp α} {im : Mo r} {x : Str} {g : α} (i : Nat) (h : G[i]? = some (.bw r im g) := by rfl) (hN : C.X.N[i]? = some x := by rfl) (hv : Vis C.X.env.scope x := by first | exact Or.inl rfl | exact Or.inr (Or.inl rfl) | exact Or.inr (Or.inr rfl)) (hd : (x == ("__debug__" : Str)) = false := by decide)
    (hcd : (x == ("__classdict__" : Str)) = false := by decide) : XE C (.Name x pos) G .b0 r (.ok g) := ⟨fun F0 H0 σ F H E Q q => tE_le (pe_var hN hv hd hcd) (ed_b (F0 := F0) (H0 := H0) h σ F H E Q q)⟩
/-- a reading without conditions -/
theorem x0 {α : Type} {r : Rp α} {e : Expr} {t : TE} {f : α} (p : PE C.X e t) (h : ∀ F0 H0, Ed F0 H0 t G m r f) : XE C e G m r (.ok f) := ⟨fun F0 H0 σ F H E Q q => tE_le p (h F0 H0 σ F H E Q q)⟩
theorem xint {i : Int} {n : Nat} : XE C (.Constant (.int i) n pos) G .sh rInt (.ok i) := x0 pe_int fun _ _ => ed_int
theorem xbl {c : Bool} {n : Nat} : XE C (.Constant (.bool c) n pos) G .sh rBl (.ok c) := x0 pe_bl fun _ _ => ed_bl
theorem xtx {x : Str} {n : Nat} (l : List Nat) (h : x = ⟨l.toArray⟩ := by rfl) (hl : l.length ≤ 16777216 := by decide) (hc : (l.all fun c => decide (c < 1114112)) = true := by decide) : XE C (.Constant (.str x) n pos) G .sh rTx (.ok l) := x0 pe_str fun _ _ => ed_tx h hl hc
theorem xnone {α : Type} {r : Rp α} {n : Nat} : XE C (.Constant .none n pos) G .sh (rOpt r) (.ok none) := x0 pe_non fun _ _ => ed_none
theorem xglob {α : Type} {r : Rp α} {x : Str} {v : V} {a : α} (h : ∃ u, C.X.mg x = some u ∧ RelV v u) (hr : ∀ F, r F v a) (hg : Gl C.X x := by rfl) (hd : (x == ("__debug__" : Str)) = false := by decide) : XE C (.Name x pos) G .sh r (.ok a) := x0 (w_glob h hg hd) fun _ _ => ed_c hr
end
section
variable {C : Cn} {G : List Slot} {m m1 m2 : Md} {a b e : Expr} {pos : Pos}
theorem x1 {α γ : Type} {rx : Rp α} {rz : Rp γ} {t : TE} {f : R Er α} {op : α → R Er γ} (ha : XE C a G m1 rx f)
    (p : PE C.X e t) (hx : ∀ F0 H0 x, Dx C F0 H0 (tE C.X a) G x → Dx C F0 H0 t G x)
    (ho : ∀ F0 H0 x, Ed F0 H0 (tE C.X a) G m1 rx x → Dr C F0 H0 t G m rz (op x)) : XE C e G m rz (f.bind op) := ⟨fun F0 H0 =>
  ((ha.h F0 H0).bind (hx F0 H0) fun x h1 => ho F0 H0 x h1).le fun _ _ _ q => tE_le p q⟩
theorem dx_op1 {r : R2} {ta tb : TE} {F0 H0 : Hp} {x : Er} (h : Dx C F0 H0 ta G x) : Dx C F0 H0 (tOp r ta tb) G x := fun σ F H E w Q => h σ F H E w _
theorem dx_op2 {α : Type} {rx : Rp α} {y : α} {r : R2} {ta tb : TE} {F0 H0 : Hp} {x : Er} (h1 : Ed F0 H0 ta G m rx y) (h : Dx C F0 H0 tb G x) : Dx C F0 H0 (tOp r ta tb) G x := fun σ F H E w Q =>
  h1 σ F H E _ fun v F1 H1 g1 _ => h σ F1 H1 (E.gro g1) (fun F' H' cls d g z => w F' H' cls d (g1.trans g) z) _
theorem x2 {α β γ : Type} {rx : Rp α} {ry : Rp β} {rz : Rp γ} {r : R2} {f : R Er α} {g : R Er β} {op : α → β → R Er γ} (ha : XE C a G m1 rx f) (hb : XE C b G m2 ry g)
    (p : PE C.X e (tOp r (tE C.X a) (tE C.X b))) (ho : ∀ F0 H0 x y, Ed F0 H0 (tE C.X a) G m1 rx x → Ed F0 H0 (tE C.X b) G m2 ry y → Dr C F0 H0 (tOp r (tE C.X a) (tE C.X b)) G m rz (op x y)) :
    XE C e G m rz (f.bind fun x => g.bind fun y => op x y) := ⟨fun F0 H0 =>
  ((ha.h F0 H0).bind (fun _ => dx_op1) fun x h1 => (hb.h F0 H0).bind (fun _ => dx_op2 h1) fun y h2 => ho F0 H0 x y h1 h2).le fun _ _ _ q => tE_le p q⟩
theorem dr_iff {α : Type} {r : Rp α} {c : Prop} [Decidable c] {x : α} {F0 H0 : Hp} {t : TE} (h : c → Ed F0 H0 t G m r x) : Dr C F0 H0 t G m r (R.iff c (.ok x)) := by
  unfold R.iff
  by_cases hc : c
  · rw [if_pos hc]; exact h hc
  · rw [if_neg hc]; trivial
def mulR (x y : Int) : R Er Int := R.iff ((-18446744073709551616 < x ∧ x < 18446744073709551616) ∨ (-18446744073709551616 < y ∧ y < 18446744073709551616)) (.ok (x * y))
def modR (x y : Int) : R Er Int := R.iff (0 < y) (.ok (x % y))
def divR (x y : Int) : R Er Int := R.iff (0 < y ∧ y < 1073741824) (.ok (x / y))
def powR (x y : Int) : R Er Int := R.iff (0 ≤ y ∧ y ≤ 1000000 ∧ x.natAbs < 18446744073709551616) (.ok (x ^ y.toNat))
variable {f g : R Er Int}
theorem xadd (ha : XE C a G m1 rInt f) (hb : XE C b G m2 rInt g) : XE C (.BinOp a .Add b pos) G .sh rInt (f.bind fun x => g.bind fun y => .ok (x + y)) := x2 ha hb (pe_op op_add pE pE) fun _ _ _ _ h1 h2 => ed_add h1 h2
theorem xsub (ha : XE C a G m1 rInt f) (hb : XE C b G m2 rInt g) : XE C (.BinOp a .Sub b pos) G .sh rInt (f.bind fun x => g.bind fun y => .ok (x - y)) := x2 ha hb (pe_op op_sub pE pE) fun _ _ _ _ h1 h2 => ed_sub h1 h2
theorem xmul (ha : XE C a G m1 rInt f) (hb : XE C b G m2 rInt g) : XE C (.BinOp a .Mult b pos) G .sh rInt (f.bind fun x => g.bind fun y => mulR x y) := x2 ha hb (pe_op op_mul pE pE) fun _ _ _ _ h1 h2 => dr_iff fun c => ed_mul h1 h2 c
theorem xmod (ha : XE C a G m1 rInt f) (hb : XE C b G m2 rInt g) : XE C (.BinOp a .Mod b pos) G .sh rInt (f.bind fun x => g.bind fun y => modR x y) := x2 ha hb (pe_op op_mod pE pE) fun _ _ _ _ h1 h2 => dr_iff fun c => ed_mod h1 h2 c
theorem xdiv (ha : XE C a G m1 rInt f) (hb : XE C b G m2 rInt g) : XE C (.BinOp a .FloorDiv b pos) G .sh rInt (f.bind fun x => g.bind fun y => divR x y) := x2 ha hb (pe_op op_fdiv pE pE) fun _ _ _ _ h1 h2 => dr_iff fun c => ed_div h1 h2 c
theorem xpow (ha : XE C a G m1 rInt f) (hb : XE C b G m2 rInt g) : XE C (.BinOp a .Pow b pos) G .sh rInt (f.bind fun x => g.bind fun y => powR x y) := x2 ha hb (pe_op op_pow pE pE) fun _ _ _ _ h1 h2 => dr_iff fun c => ed_pow h1 h2 c
def tCm (X : Cx) (op : CmpOp) (a b : Expr) : TE := fun σ H Q => ∀ (pins : List (Addr × Obj)) (s : Shared), Inv X pins σ H s →
    wpAny (model X.prog X.w) X.A (eval a X.env) (fun v s₁ => wpAny (model X.prog X.w) X.A (eval b X.env) (fun u s₂ => wpAny (model X.prog X.w) X.A (compareOp op v u) (EP X pins σ Q) X.xe s₂) X.xe s₁) X.xe s
theorem pC {X : Cx} {op : CmpOp} {a b : Expr} : PC X op a b (tCm X op a b) := ⟨fun pins s σ H Q I h => h pins s I⟩
theorem tCm_le {X : Cx} {op : CmpOp} {a b : Expr} {t : TE} (h : PC X op a b t) {σ : L2.St} {H : Hp} {Q : VK} (q : t σ H Q) : tCm X op a b σ H Q := fun pins s I => h.run pins s σ H Q I q
theorem pcR {X : Cx} {op : CmpOp} {r : R2} (ho : OpR X (compareOp op) r) {a b : Expr} : PC X op a b (tOp r (tE X a) (tE X b)) := ⟨fun pins s σ H Q I h => binT pE pE I h fun v u s2 x y H2 I2 rx ry q => ho pins s2 σ H2 x y v u Q I2 rx ry q⟩
structure XC (C : Cn) (op : CmpOp) (a b : Expr) (G : List Slot) (f : R Er Bool) : Prop where
  h : ∀ F0 H0, Dr C F0 H0 (tCm C.X op a b) G .sh rBl f
theorem xcv {op : CmpOp} {f : R Er Bool} (h : XC C op a b G f) (hm : behindInMarks op b = false := by first | exact nobehind _ (by decide) (by decide) | rfl) : XE C (.Compare a [op] [b] pos) G .sh rBl f := ⟨fun F0 H0 => (h.h F0 H0).le fun _ _ _ q => tE_le (pe_cmp pC hm) q⟩
theorem xqc {op : CmpOp} {f : R Er Bool} (h : XC C op a b G f) (hm : behindInMarks op b = false := by first | exact nobehind _ (by decide) (by decide) | rfl) : XQ C (.Compare a [op] [b] pos) G f := ⟨fun F0 H0 => by
  have h := h.h F0 H0
  cases f with
  | ok x => exact fun σ F H E Q q => tT_le (pt_cmp pC hm) (et_B (te := tCm C.X op a b) (F0 := F0) (H0 := H0) h σ F H E Q q)
  | er e => exact fun σ F H E w Q => tT_le (pt_cmp pC hm) (h σ F H E w _)
  | no => trivial⟩
theorem xc2 {α β : Type} {rx : Rp α} {ry : Rp β} {r : R2} {op : CmpOp} {f : R Er α} {g : R Er β} {o : α → β → R Er Bool} (ha : XE C a G m1 rx f) (hb : XE C b G m2 ry g)
    (p : OpR C.X (compareOp op) r) (ho : ∀ F0 H0 x y, Ed F0 H0 (tE C.X a) G m1 rx x → Ed F0 H0 (tE C.X b) G m2 ry y → Dr C F0 H0 (tOp r (tE C.X a) (tE C.X b)) G .sh rBl (o x y)) :
    XC C op a b G (f.bind fun x => g.bind fun y => o x y) := ⟨fun F0 H0 =>
  ((ha.h F0 H0).bind (fun _ => dx_op1) fun x h1 => (hb.h F0 H0).bind (fun _ => dx_op2 h1) fun y h2 => ho F0 H0 x y h1 h2).le fun _ _ _ q => tCm_le (pcR p) q⟩
theorem xlt (ha : XE C a G m1 rInt f) (hb : XE C b G m2 rInt g) : XC C .Lt a b G (f.bind fun x => g.bind fun y => .ok (decide (x < y))) := xc2 ha hb op_lt fun _ _ _ _ h1 h2 => ed_lt h1 h2
theorem xgt (ha : XE C a G m1 rInt f) (hb : XE C b G m2 rInt g) : XC C .Gt a b G (f.bind fun x => g.bind fun y => .ok (decide (y < x))) := xc2 ha hb op_gt fun _ _ _ _ h1 h2 => ed_gt h1 h2
theorem xge (ha : XE C a G m1 rInt f) (hb : XE C b G m2 rInt g) : XC C .GtE a b G (f.bind fun x => g.bind fun y => .ok (decide (y ≤ x))) := xc2 ha hb op_ge fun _ _ _ _ h1 h2 => ed_ge h1 h2
/-- == of ints, texts, bools -/
theorem xeq {α : Type} {r : Rp α} [DecidableEq α] [Mo r] [Sc r] {f g : R Er α} (ha : XE C a G m1 r f) (hb : XE C b G m2 r g) : XC C .Eq a b G (f.bind fun x => g.bind fun y => .ok (decide (x = y))) := xc2 ha hb op_eq fun _ _ _ _ h1 h2 => ed_eq h1 h2
/-- == of lists, tuples -/
theorem xeqd {α : Type} {r : Rp α} [DecidableEq α] [Mo r] [A : Da r] {f g : R Er α} (ha : XE C a G m1 r f) {k : Nat} (hr : Room k C.X.A) (hb : XE C b G m2 r g) (hd : A.dep ≤ 64 := by decide) : XC C .Eq a b G (f.bind fun x => g.bind fun y => .ok (decide (x = y))) := xc2 ha hb (op_eqD hr.units) fun _ _ _ _ h1 h2 => ed_eqQ h1 h2 hd
/-- in a list, a tuple of flat things -/
theorem xinL {α : Type} {r : Rp α} [Ft r] [Mo r] [DecidableEq α] {f : R Er α} {g : R Er (List α)} (ha : XE C a G m1 r f) (hb : XE C b G m2 (rLst r) g) : XC C .In a b G (f.bind fun x => g.bind fun y => .ok (decide (x ∈ y))) := xc2 ha hb op_in_seq fun _ _ _ _ h1 h2 => ed_inL h1 h2
theorem xniL {α : Type} {r : Rp α} [Ft r] [Mo r] [DecidableEq α] {f : R Er α} {g : R Er (List α)} (ha : XE C a G m1 r f) (hb : XE C b G m2 (rLst r) g) : XC C .NotIn a b G (f.bind fun x => g.bind fun y => .ok (!decide (x ∈ y))) := xc2 ha hb op_notIn_seq fun _ _ _ _ h1 h2 => ed_niL h1 h2
theorem xinU {α : Type} {r : Rp α} [Ft r] [Mo r] [DecidableEq α] {f : R Er α} {g : R Er (List α)} (ha : XE C a G m1 r f) (hb : XE C b G m2 (rTup r) g) : XC C .In a b G (f.bind fun x => g.bind fun y => .ok (decide (x ∈ y))) := xc2 ha hb op_in_seq fun _ _ _ _ h1 h2 => ed_inU h1 h2
/-- a sign in a text -/
def inTR (x y : List Nat) : R Er Bool := match x with
  | [c] => .ok (decide (c ∈ y))
  | _ => .no
theorem xinT {f g : R Er (List Nat)} (ha : XE C a G m1 rTx f) (hb : XE C b G m2 rTx g) : XC C .In a b G (f.bind fun x => g.bind fun y => inTR x y) := xc2 ha hb op_in_sign fun F0 H0 x y h1 h2 => by
  match x with
  | [] => trivial
  | [c] => exact ed_inT h1 h2
  | _ :: _ :: _ => trivial
theorem xc1 {α : Type} {rx : Rp α} {t : TE} {op : CmpOp} {f : R Er α} {o : α → R Er Bool} (ha : XE C a G m1 rx f) (p : PC C.X op a b t) (hx : ∀ F0 H0 x, Dx C F0 H0 (tE C.X a) G x → Dx C F0 H0 t G x) (ho : ∀ F0 H0 x, Ed F0 H0 (tE C.X a) G m1 rx x → Dr C F0 H0 t G .sh rBl (o x)) :
    XC C op a b G (f.bind o) := ⟨fun F0 H0 => ((ha.h F0 H0).bind (hx F0 H0) fun x h1 => ho F0 H0 x h1).le fun _ _ _ q => tCm_le p q⟩
theorem xisN {α : Type} {r : Rp α} [Mo r] [Nn r] {n : Nat} {f : R Er (Option α)} (ha : XE C a G m1 (rOpt r) f) : XC C .Is a (.Constant .none n pos) G (f.bind fun x => .ok x.isNone) := xc1 ha (pc_isN pE) (fun _ _ _ z σ F H E w Q => z σ F H E w _) fun _ _ _ h => ed_isN h
theorem xniN {α : Type} {r : Rp α} [Mo r] [Nn r] {n : Nat} {f : R Er (Option α)} (ha : XE C a G m1 (rOpt r) f) : XC C .IsNot a (.Constant .none n pos) G (f.bind fun x => .ok x.isSome) := xc1 ha (pc_notN pE) (fun _ _ _ z σ F H E w Q => z σ F H E w _) fun _ _ _ h => ed_notN h
end
end LJ
set_option Elab.async false
set_option linter.all false
set_option maxRecDepth 100000
set_option maxHeartbeats 4000000
set_option autoImplicit false
namespace R
variable {ε δ α β γ S T : Type}
/-- through a list, one state after the other -/
def foldR (f : S → α → R ε S) : S → List α → R ε S
  | s, [] => .ok s
  | s, x :: xs => (f s x).bind fun s' => foldR f s' xs
@[simp] theorem ok_bind (a : α) (k : α → R ε β) : (R.ok a : R ε α).bind k = k a := rfl
@[simp] theorem er_bind (e : ε) (k : α → R ε β) : (R.er e : R ε α).bind k = .er e := rfl
@[simp] theorem no_bind (k : α → R ε β) : (R.no : R ε α).bind k = .no := rfl
@[simp] theorem ok_thn (a : α) (g : ε → δ) (k : α → R δ β) : (R.ok a : R ε α).thn g k = k a := rfl
@[simp] theorem er_thn (e : ε) (g : ε → δ) (k : α → R δ β) : (R.er e : R ε α).thn g k = .er (g e) := rfl
@[simp] theorem no_thn (g : ε → δ) (k : α → R δ β) : (R.no : R ε α).thn g k = .no := rfl
theorem bind_bind (x : R ε α) (k : α → R ε β) (l : β → R ε γ) : (x.bind k).bind l = x.bind fun a => (k a).bind l := by cases x <;> rfl
theorem thn_bind (x : R ε α) (g : ε → δ) (k : α → R δ β) (l : β → R δ γ) : (x.thn g k).bind l = x.thn g fun a => (k a).bind l := by cases x <;> rfl
theorem cond_bind (c : Bool) (x y : R ε α) (k : α → R ε β) : (cond c x y).bind k = cond c (x.bind k) (y.bind k) := by cases c <;> rfl
theorem foldR_run {f : S → α → R ε S} {B : S → α → (S → R ε β) → R ε β} (h : ∀ s x k, B s x k = (f s x).bind k) : ∀ (xs : List α) (s : S) (k : S → R ε β), LK.runC B s xs k = (foldR f s xs).bind k
  | [], s, k => rfl
  | x :: xs, s, k => by
    show B s x _ = ((f s x).bind _).bind k
    rw [h, bind_bind]
    congr 1
    funext s'
    exact foldR_run h xs s' k
/-- all items, none may raise -/
def mapR (p : α → R ε Bool) (f : α → R ε β) : List α → R δ (List β)
  | [] => .ok []
  | x :: xs => (p x).noer.bind fun b => cond b ((f x).noer.bind fun y => (mapR p f xs).bind fun ys => .ok (y :: ys)) (mapR p f xs)
end R
namespace LK
open PySem L2
section
variable {F0 H0 F H F' H' : Hp} {G G' : List Slot} {σ σ' : L2.St}
/-- the same slots at other places -/
theorem EnvOk.re (E : EnvOk F0 H0 G σ F H) (φ : Nat → Nat) (len : σ'.length = G'.length) (h : ∀ i s, G'[i]? = some s → (∃ x, σ'[i]? = some x) ∧ (s = .no ∨ (G[φ i]? = some s ∧ σ'[i]? = σ[φ i]?)))
    (inj : ∀ i j, φ i = φ j → i = j ∨ ∀ M iM, G'[i]? ≠ some (.ow M iM) ∨ G'[j]? = some .no) : EnvOk F0 H0 G' σ' F H := by
  obtain ⟨fp, E⟩ := E
  refine ⟨fun i => fp (φ i), E.gr, len, fun i s hi => ?_, fun i j M iM N iN a hij h1 h2 h3 => ?_⟩
  · obtain ⟨⟨x, hx⟩, h | ⟨h, e⟩⟩ := h i s hi
    · subst h; exact ⟨x, hx, trivial⟩
    · obtain ⟨y, hy, ok⟩ := E.at_ _ s h
      exact ⟨y, by rw [e, hy], ok⟩
  · obtain ⟨_, q | ⟨q1, _⟩⟩ := h i _ h1
    · cases q
    obtain ⟨_, q | ⟨q2, _⟩⟩ := h j _ h2
    · cases q
    refine E.dj (φ i) (φ j) M iM N iN a (fun e => ?_) q1 q2 h3
    rcases inj i j e with z | z
    · exact hij z
    · rcases z M iM with z | z
      · exact z h1
      · rw [h2] at z; cases z
theorem EnvOk.tail {s : Slot} {x : Option V} (E : EnvOk F0 H0 (s :: G) (x :: σ) F H) : EnvOk F0 H0 G σ F H :=
  E.re (fun i => i + 1) (by have := E.len; simpa using this) (fun i t hi => by
    have hl : i < σ.length := by have := E.len; simp at this; rw [this]; exact (List.getElem?_eq_some_iff.mp hi).1
    exact ⟨⟨_, List.getElem?_eq_getElem hl⟩, .inr ⟨by simpa using hi, by simp⟩⟩) (fun i j e => .inl (by omega))
theorem EnvOk.head {s : Slot} {x : Option V} (E : EnvOk F0 H0 (s :: G) (x :: σ) F H) : EnvOk F0 H0 [s] [x] F H :=
  E.re (fun i => i) rfl (fun i t hi => by
    cases i with
    | zero => exact ⟨⟨x, rfl⟩, .inr ⟨by simpa using hi, by simp⟩⟩
    | succ i => simp at hi) (fun i j e => .inl e)
theorem EnvOk.move {s : Slot} {x : Option V} {i : Nat} (E : EnvOk F0 H0 (s :: G) (x :: σ) F H) : EnvOk F0 H0 (G.set i s) (σ.set i x) F H := by
  have hl := E.len
  simp at hl
  refine E.re (fun j => if j = i then 0 else j + 1) (by simp [hl]) (fun j t hj => ?_) (fun j k e => ?_)
  · rcases set_get hj with ⟨rfl, h1, h2⟩ | ⟨h1, h2⟩
    · subst h2
      refine ⟨⟨x, by rw [List.getElem?_set_self (by omega)]⟩, .inr ⟨by simp, by rw [List.getElem?_set_self (by omega)]; simp⟩⟩
    · have hjl : j < σ.length := by rw [hl]; exact (List.getElem?_eq_some_iff.mp h2).1
      have hne : ¬ j = i := fun e => h1 e.symm
      refine ⟨⟨σ[j], by rw [List.getElem?_set_ne h1]; exact List.getElem?_eq_getElem hjl⟩, .inr ⟨by simp [hne, h2], by rw [List.getElem?_set_ne h1]; simp [hne]⟩⟩
  · left
    by_cases a : j = i <;> by_cases b : k = i <;> simp [a, b] at e <;> omega
/-- a datum ahead of the slots -/
theorem EnvOk.push {s : Slot} {v : V} (E : EnvOk F0 H0 G σ F H) (ok : SlotOk H0 F H (some v) [] s) (hn : ∀ M im, s ≠ .ow M im) : EnvOk F0 H0 (s :: G) (some v :: σ) F H := by
  obtain ⟨fp, E⟩ := E
  refine ⟨fun i => match i with | 0 => [] | j + 1 => fp j, E.gr, by simp [E.len], fun i t h => ?_, fun i j M iM N iN a hij h1 h2 h3 => ?_⟩
  · cases i with
    | zero => simp at h; subst h; exact ⟨_, rfl, ok⟩
    | succ i =>
      obtain ⟨x, hx, o⟩ := E.at_ i t (by simpa using h)
      exact ⟨x, by simpa using hx, o⟩
  · cases i with
    | zero => exact absurd (Option.some.inj h1) (hn M iM)
    | succ i =>
      cases j with
      | zero => exact absurd (Option.some.inj h2) (hn N iN)
      | succ j => exact E.dj i j M iM N iN a (by omega) (by simpa using h1) (by simpa using h2) h3
/-- a new own thing ahead of the slots -/
theorem EnvOk.pushO {M : Mu} {im : MoM M} {p : Addr} {S : List Addr} (E : EnvOk F0 H0 G σ F H) (g : Gr F H F' H') (hS : ∀ a ∈ S, H a = none ∧ F' a = none) (m : M F' H' p S) : EnvOk F0 H0 (.ow M im :: G) (some (.ref p) :: σ) F' H' := by
  have E2 : EnvOk F0 H0 (.no :: G) (none :: σ) F H := by
    obtain ⟨fp, E⟩ := E
    refine ⟨fun i => match i with | 0 => [] | j + 1 => fp j, E.gr, by simp [E.len], fun i t h => ?_, fun i j M iM N iN a hij h1 h2 h3 => ?_⟩
    · cases i with
      | zero => simp at h; subst h; exact ⟨_, rfl, trivial⟩
      | succ i =>
        obtain ⟨x, hx, o⟩ := E.at_ i t (by simpa using h)
        exact ⟨x, by simpa using hx, o⟩
    · cases i with
      | zero => cases Option.some.inj h1
      | succ i =>
        cases j with
        | zero => cases Option.some.inj h2
        | succ j => exact E.dj i j M iM N iN a (by omega) (by simpa using h1) (by simpa using h2) h3
  exact E2.setO (i := 0) (im := im) g hS m
end
end LK
namespace LJ
open PySem L2 LK LKX PyProof.Rows PySem.Spec
section
variable {C : Cn} {G : List Slot} {e : Expr}
/-- not of the entry -/
def Slot.nb : Slot → Prop
  | .bw _ _ _ => False
  | _ => True
theorem envJoin {F0 H0 F H F' H' : Hp} {σ : L2.St} {s : Slot} {v : V} (E : EnvOk F0 H0 G σ F H) (g : Gr F H F' H') (E' : EnvOk F H [s] [some v] F' H') (hn : Slot.nb s) : EnvOk F0 H0 (s :: G) (some v :: σ) F' H' := by
  obtain ⟨fp, E'⟩ := E'
  obtain ⟨x, hx, ok⟩ := E'.at_ 0 s rfl
  cases Option.some.inj hx
  cases s with
  | bw r im a => exact hn.elim
  | no => exact (E.gro g).push (s := .no) trivial fun _ _ z => nomatch z
  | fz r im a => exact (E.gro g).push (s := .fz r im a) ok fun _ _ z => nomatch z
  | ow M im =>
    obtain ⟨p, e, h1, h2⟩ := ok
    cases Option.some.inj e
    exact E.pushO (S := fp 0) g (fun a ha => ⟨(h1 a ha).2, (h1 a ha).1⟩) h2
theorem env1 {F H F' H' : Hp} {s : Slot} {v : V} (g : Gr F H F' H') (ok : SlotOk H F' H' (some v) [] s) (hn : ∀ M im, s ≠ .ow M im) : EnvOk F H [s] [some v] F' H' :=
  EnvOk.push (G := []) (σ := []) ⟨fun _ => [], g, rfl, fun i s h => by simp at h, fun i j M iM N iN a _ h => by simp at h⟩ ok hn
theorem env1o {F H F' H' : Hp} {M : Mu} {im : MoM M} {p : Addr} {S : List Addr} (e : Ex F H) (g : Gr F H F' H') (hS : ∀ a ∈ S, H a = none ∧ F' a = none) (m : M F' H' p S) : EnvOk F H [.ow M im] [some (.ref p)] F' H' :=
  EnvOk.pushO (G := []) (σ := []) ⟨fun _ => [], Gr.refl e, rfl, fun i s h => by simp at h, fun i j M iM N iN a _ h => by simp at h⟩ g hS m
theorem dv_ed {α : Type} {r : Rp α} [im : Mo r] {a : α} {F0 H0 : Hp} {t : TE} (h : Ed F0 H0 t G .sh r a) : Dv F0 H0 t G (.fz r im a) := fun σ F H E Q q => h σ F H E Q fun v F' H' g hv => q v F' H' g (env1 g ⟨v, rfl, hv⟩ fun _ _ z => nomatch z)
theorem ed_dv {α : Type} {r : Rp α} {im : Mo r} {a : α} {F0 H0 : Hp} {t : TE} (h : Dv F0 H0 t G (.fz r im a)) : Ed F0 H0 t G .sh r a := fun σ F H E Q q => h σ F H E Q fun v F' H' g E' => by
  obtain ⟨w, hw, ok⟩ := E'.fz_at (i := 0) rfl
  cases Option.some.inj (Option.some.inj hw)
  exact q v F' H' g ok
theorem dv_en {α : Type} {r : Rp α} [im : Mo r] {xs : List α} {F0 H0 : Hp} {t : TE} (h : En F0 H0 t G r xs) : Dv F0 H0 t G (sL r xs) := fun σ F H E Q q => h σ F H E Q fun p vs F' H' g h1 h2 h3 h4 h5 =>
  q _ F' H' g (env1o (S := [p]) E.gr.fh g (fun a ha => by rw [List.mem_singleton.mp ha]; exact ⟨h1, h2⟩) ⟨rfl, vs, h3, h4, h5⟩)
theorem xn {α : Type} {r : Rp α} [im : Mo r] {f : R Er α} (h : XE C e G .sh r f) : XN C e G (fun a => .fz r im a) f := ⟨fun F0 H0 => by
  have h := h.h F0 H0
  cases f with
  | ok a => exact dv_ed h
  | er x => exact h
  | no => trivial⟩
theorem xsh {α : Type} {r : Rp α} {im : Mo r} {f : R Er α} (h : XN C e G (fun a => .fz r im a) f) : XE C e G .sh r f := ⟨fun F0 H0 => by
  have h := h.h F0 H0
  cases f with
  | ok a => exact ed_dv h
  | er x => exact h
  | no => trivial⟩
/-- an own thing that may be frozen -/
class Fzz {α : Type} (mu : α → Mu) (r : outParam (Rp α)) : Prop where
  fz : ∀ {F F' H : Hp} {p : Addr} {S : List Addr} {a : α}, mu a F H p S → (∀ x ∈ S, F' x = H x) → Ex F F' → r F' (.ref p) a
instance {α : Type} (r : Rp α) [Mo r] : Fzz (mL r) (rLst r) := ⟨fun {F F' H p S a} ⟨hS, vs, e, h1, h2⟩ hp ee => ⟨p, vs, rfl, by rw [hp p (by rw [hS]; simp), e], h1, pmap (fun _ _ z => mox ee z) h2⟩⟩
theorem xfz {α : Type} {mu : α → Mu} {iM : ∀ a, MoM (mu a)} {r : Rp α} [Fzz mu r] [im : Mo r] {f : R Er α} (h : XN C e G (fun a => .ow (mu a) (iM a)) f) : XE C e G .sh r f := ⟨fun F0 H0 => by
  have h := h.h F0 H0
  cases f with
  | ok a =>
    refine ed_dv (im := im) fun σ F H E Q q => h σ F H E Q fun v F' H' g E' => ?_
    obtain ⟨F2, E2, g2, _⟩ := E'.freeze (i := 0) (s := sF r a) rfl (fun p S F' m hp ee _ => ⟨.ref p, rfl, Fzz.fz m hp ee⟩) (fun _ _ z => nomatch z)
    exact q v F2 H' g2 E2
  | er x => exact h
  | no => trivial⟩
theorem xbo {α : Type} {r : Rp α} [Mo r] {m : Md} {f : R Er α} (h : XE C e G m r f) : XE C e G .bo r f := ⟨fun F0 H0 => by
  have h := h.h F0 H0
  cases f with
  | ok a => exact Ed.bo h
  | er x => exact h
  | no => trivial⟩
end
section
variable {C : Cn} {G : List Slot} {a b c : Expr} {rest : List Expr} {pos : Pos} {m : Md}
theorem tr_bind {f : R Er Bool} {g : Bool → R Er Bool} {F0 H0 : Hp} {t u : TT} (h : Tr C F0 H0 t G f) (hx : ∀ x, Tx C F0 H0 t G x → Tx C F0 H0 u G x) (k : ∀ b, Et F0 H0 t G b → Tr C F0 H0 u G (g b)) : Tr C F0 H0 u G (f.bind g) := by
  cases f with
  | ok b => exact k b h
  | er e => exact hx e h
  | no => trivial
/-- an expression as a test -/
theorem xqv {f : R Er Bool} (h : XE C a G m rBl f) (he : ∀ whole, isTrue a C.X.env whole = (do let v ← whole; standAt a.pos; holding [v] (truthy v)) := by intro _; rfl) : XQ C a G f := ⟨fun F0 H0 => by
  have h := h.h F0 H0
  cases f with
  | ok x => exact fun σ F H E Q q => tT_le (pt_val pE he) (et_B (te := tE C.X a) (F0 := F0) (H0 := H0) h σ F H E Q q)
  | er e => exact fun σ F H E w Q => tT_le (pt_val pE he) (h σ F H E w _)
  | no => trivial⟩
/-- a comparison as a test: its two operands -/
theorem xqw {f : R Er Bool} (h : XW C a G f) : XQ C a G f := ⟨fun F0 H0 => (h.h F0 H0).le fun _ _ _ q => tT_le pW.pt q⟩
theorem xqnot {f : R Er Bool} (h : XQ C a G f) : XQ C (.UnaryOp .Not a pos) G (f.bind fun b => .ok (!b)) := ⟨fun F0 H0 =>
  (tr_bind (u := tNot (tT C.X a)) (g := fun b => .ok (!b)) (h.h F0 H0) (fun x z σ F H E w Q => z σ F H E w _) fun b h => et_not h).le fun _ _ _ q => tT_le (pt_not pT) q⟩
theorem xqand1 {f : R Er Bool} (h : XQ C a G f) : XW C (.BoolOp .And [a] pos) G f := ⟨fun F0 H0 => (h.h F0 H0).le fun _ _ _ q => tW_le (pw_and1 pT) q⟩
theorem xqor1 {f : R Er Bool} (h : XQ C a G f) : XW C (.BoolOp .Or [a] pos) G f := ⟨fun F0 H0 => (h.h F0 H0).le fun _ _ _ q => tW_le (pw_or1 pT) q⟩
theorem xqand {f g : R Er Bool} (h : XQ C a G f) (h2 : XW C (.BoolOp .And (b :: rest) pos) G g) : XW C (.BoolOp .And (a :: b :: rest) pos) G (f.bind fun x => cond x g (.ok false)) := ⟨fun F0 H0 =>
  (tr_bind (u := tAnd (tT C.X a) (tW C.X (.BoolOp .And (b :: rest) pos))) (h.h F0 H0) (fun x z σ F H E w Q => z σ F H E w _) fun x h1 => by
    cases x with
    | false => exact fun σ F H E Q q => h1 σ F H E _ fun F1 H1 g1 => by rw [if_neg (by decide)]; exact q F1 H1 g1
    | true =>
      have h2 := h2.h F0 H0
      show Tr C F0 H0 _ G g
      cases g with
      | ok y => exact fun σ F H E Q q => h1 σ F H E _ fun F1 H1 g1 => by rw [if_pos rfl]; exact h2 σ F1 H1 (E.gro g1) Q fun F2 H2 g2 => q F2 H2 (g1.trans g2)
      | er e => exact fun σ F H E w Q => h1 σ F H E _ fun F1 H1 g1 => by rw [if_pos rfl]; exact h2 σ F1 H1 (E.gro g1) (fun F' H' cls d g z => w F' H' cls d (g1.trans g) z) Q
      | no => trivial).le fun _ _ _ q => tW_le (pw_and pT pW) q⟩
theorem xqor {f g : R Er Bool} (h : XQ C a G f) (h2 : XW C (.BoolOp .Or (b :: rest) pos) G g) : XW C (.BoolOp .Or (a :: b :: rest) pos) G (f.bind fun x => cond x (.ok true) g) := ⟨fun F0 H0 =>
  (tr_bind (u := tOr (tT C.X a) (tW C.X (.BoolOp .Or (b :: rest) pos))) (h.h F0 H0) (fun x z σ F H E w Q => z σ F H E w _) fun x h1 => by
    cases x with
    | true => exact fun σ F H E Q q => h1 σ F H E _ fun F1 H1 g1 => by rw [if_pos rfl]; exact q F1 H1 g1
    | false =>
      have h2 := h2.h F0 H0
      show Tr C F0 H0 _ G g
      cases g with
      | ok y => exact fun σ F H E Q q => h1 σ F H E _ fun F1 H1 g1 => by rw [if_neg (by decide)]; exact h2 σ F1 H1 (E.gro g1) Q fun F2 H2 g2 => q F2 H2 (g1.trans g2)
      | er e => exact fun σ F H E w Q => h1 σ F H E _ fun F1 H1 g1 => by rw [if_neg (by decide)]; exact h2 σ F1 H1 (E.gro g1) (fun F' H' cls d g z => w F' H' cls d (g1.trans g) z) Q
      | no => trivial).le fun _ _ _ q => tW_le (pw_or pT pW) q⟩
end
section
variable {C : Cn} {β ρ ε Z S S' T : Type} {J : Jn β ρ ε Z} {G : List Slot} {slk : S' → List Slot} {e : Expr} {rest st : List Stmt} {pos : Pos}
theorem Ans.air {F0 H0 : Hp} {A : R ε ρ → Prop} {rt : VK} (an : Ans C J F0 H0 A rt) {z : Z} (hz : Lw G (J.slz z)) {x : Er} (h : A (.er (J.em x z))) {σ : L2.St} {F H : Hp} (E : EnvOk F0 H0 G σ F H) : ∀ F' H' cls d, Gr F H F' H' → rEr C.T F' cls d x → C.W cls d σ H' :=
  fun F' H' cls d g r => an.er x z h σ F' H' cls d ((E.gro g).weak hz) r
theorem xb_nil (s : S') (h : Lw G (slk s)) : XB C J [] G slk (fun k => k s) := ⟨fun F0 H0 A D an k hk hA σ F H E => tS_le pss_nil (hk s hA σ F H (E.weak h))⟩
theorem xb_set {α : Type} {sb : α → Slot} {f : R Er α} {M : α → (S' → R ε ρ) → R ε ρ} {x : Str} {pos' : Pos} (i : Nat) (G' : α → List Slot) (z : Z) (hz : Lw G (J.slz z)) (he : XN C e G sb f) (hG : ∀ a, G.set i (sb a) = G' a) (hr : ∀ a, XB C J rest (G' a) slk (M a)) (hn : ∀ a, Slot.nb (sb a) := by intro; trivial)
    (hi : C.X.N[i]? = some x := by rfl) (hx : Loc C.X.env.scope x := by first | exact .inl rfl | exact .inr rfl) (hs : swapsWith e (some (.Name x pos')) pos.line C.X.env = pure false := by rfl) (hf : C.X.fn x = true ∨ C.X.env.scope.names.lookup x = some .local := by first | exact .inl rfl | exact .inr rfl) :
    XB C J (.Assign [.Name x pos'] e pos :: rest) G slk (fun k => f.thn (fun y => J.em y z) fun a => M a k) := ⟨fun F0 H0 A D an k hk hA σ F H E => by
  have he := he.h F0 H0
  refine tS_le (pss_cons (ps_set C.nd hi hx pE hs hf) pS) ?_
  cases f with
  | ok a => exact he σ F H E _ fun v F' H' g E' => (hr a).h F0 H0 A D an k hk hA _ F' H' (hG a ▸ (envJoin E g E' (hn a)).move)
  | er y => exact he σ F H E (an.air hz hA E) _
  | no => exact (an.no hA).elim⟩
theorem xb_ret {α : Type} {sb : α → Slot} {f : R Er α} (z : Z) (hz : Lw G (J.slz z)) (b : α → β) (hb : ∀ a, sb a = J.rs (b a)) (he : XN C e G sb f) (hn : ∀ a, Slot.nb (sb a) := by intro; trivial) :
    XB C J (.Return (some e) pos :: rest) G slk (fun _ => f.thn (fun y => J.em y z) fun a => .ok (J.ret (b a) z)) := ⟨fun F0 H0 A D an k hk hA σ F H E => by
  have he := he.h F0 H0
  refine tS_le (pss_cons (ps_ret pE) pS) ?_
  cases f with
  | ok a => exact he σ F H E _ fun v F' H' g E' => an.ret (b a) z hA σ F' H' v (EnvOk.weak (envJoin E g E' (hn a)) ⟨.inr (hb a), hz⟩)
  | er y => exact he σ F H E (an.air hz hA E) _
  | no => exact (an.no hA).elim⟩
theorem xb_if {c : Expr} {a b : List Stmt} {f : R Er Bool} {slj : S → List Slot} {M1 M2 : (S → R ε ρ) → R ε ρ} {M : S → (S' → R ε ρ) → R ε ρ} (z : Z) (hz : Lw G (J.slz z)) (hc : XQ C c G f) (h1 : XB C J a G slj M1) (h2 : XB C J b G slj M2) (hr : ∀ s, XB C J rest (slj s) slk (M s)) :
    XB C J (.If c a b pos :: rest) G slk (fun k => f.thn (fun y => J.em y z) fun x => cond x (M1 fun s => M s k) (M2 fun s => M s k)) := ⟨fun F0 H0 A D an k hk hA σ F H E => by
  have hc := hc.h F0 H0
  refine tS_le (pss_cons (ps_if pT pS pS) pS) ?_
  cases f with
  | ok x =>
    refine hc σ F H E _ fun F' H' g => ?_
    cases x with
    | true => rw [if_pos rfl]; exact h1.h F0 H0 A { D with nx := tS C.X rest D } an _ (fun s hs => (hr s).h F0 H0 A D an k hk hs) hA σ F' H' (E.gro g)
    | false => rw [if_neg (by decide)]; exact h2.h F0 H0 A { D with nx := tS C.X rest D } an _ (fun s hs => (hr s).h F0 H0 A D an k hk hs) hA σ F' H' (E.gro g)
  | er y => exact hc σ F H E (an.air hz hA E) _
  | no => exact (an.no hA).elim⟩
/-- .. both ways go on: by values -/
theorem xb_ifv {c : Expr} {a b : List Stmt} {f : R Er Bool} {slj : S → List Slot} {M1 M2 : (S → R ε ρ) → R ε ρ} {M : S → (S' → R ε ρ) → R ε ρ} (z : Z) (v1 v2 : R ε S) (hz : Lw G (J.slz z)) (hc : XQ C c G f) (h1 : XB C J a G slj M1) (h2 : XB C J b G slj M2) (e1 : ∀ k, M1 k = v1.bind k) (e2 : ∀ k, M2 k = v2.bind k) (hr : ∀ s, XB C J rest (slj s) slk (M s)) :
    XB C J (.If c a b pos :: rest) G slk (fun k => (f.thn (fun y => J.em y z) fun x => cond x v1 v2).bind fun s => M s k) := ⟨fun F0 H0 A D an k hk hA => by
  refine (xb_if z hz hc h1 h2 hr).h F0 H0 A D an k hk ?_
  have e : (fun x => cond x (M1 fun s => M s k) (M2 fun s => M s k)) = fun x => (cond x v1 v2).bind fun s => M s k := by
    funext x; rw [e1, e2, R.cond_bind]
  show A (f.thn _ fun x => cond x (M1 fun s => M s k) (M2 fun s => M s k))
  rw [e, ← R.thn_bind]; exact hA⟩
end
def tI (X : Cx) (tg e : Expr) : TI := fun σ H Rr => ∀ (pins : List (Addr × Obj)) (s : Shared), Inv X pins σ H s → wpAny (model X.prog X.w) X.A (eval e X.env) (fun v s1 => wpAny (model X.prog X.w) X.A (pyIter v) (PIE X pins σ tg Rr) X.xe s1) X.xe s
def tG (X : Cx) (tg : Expr) : TG := fun v σ H Q => ∀ (pins : List (Addr × Obj)) (s : Shared) (u : Value), Inv X pins σ H s → RelV v u → wpAny (model X.prog X.w) X.A (assign tg X.env u) (fun _ s' => ∃ σ' H', Inv X pins σ' H' s' ∧ Q σ' H') X.xe s
theorem pI {X : Cx} {tg e : Expr} : PI X tg e (tI X tg e) := ⟨fun pins s σ H Rr I h => h pins s I⟩
theorem pG {X : Cx} {tg : Expr} : PG X tg (tG X tg) := ⟨fun pins s σ H v u Q I r h => h pins s u I r⟩
theorem tI_le {X : Cx} {tg e : Expr} {w : TI} (h : PI X tg e w) {σ : L2.St} {H : Hp} {Rr : It → Hp → Prop} (q : w σ H Rr) : tI X tg e σ H Rr := fun pins s I => h.run pins s σ H Rr I q
theorem tG_le {X : Cx} {tg : Expr} {g : TG} (h : PG X tg g) {v : V} {σ : L2.St} {H : Hp} {Q : L2.St → Hp → Prop} (q : g v σ H Q) : tG X tg v σ H Q := fun pins s u I r => h.run pins s σ H v u Q I r q
def Ix (C : Cn) (F0 H0 : Hp) (w : TI) (G : List Slot) (e : Er) : Prop := ∀ σ F H, EnvOk F0 H0 G σ F H → (∀ F' H' cls d, Gr F H F' H' → rEr C.T F' cls d e → C.W cls d σ H') → ∀ Rr : It → Hp → Prop, w σ H Rr
def Ir (C : Cn) (F0 H0 : Hp) {α : Type} (w : TI) (G : List Slot) (m : Md) (r : Rp α) : R Er (List α) → Prop
  | .ok xs => Ei F0 H0 w G m r xs
  | .er e => Ix C F0 H0 w G e
  | .no => True
structure XI (C : Cn) (tg e : Expr) (G : List Slot) (m : Md) {α : Type} (r : Rp α) (f : R Er (List α)) : Prop where
  h : ∀ F0 H0, Ir C F0 H0 (tI C.X tg e) G m r f
/-- a target's store, told for every heap -/
def Egs {α : Type} (H0 : Hp) (g : TG) (m : Md) (r : Rp α) (up : α → List Slot → List Slot) (tg : List Nat) : Prop := ∀ F0 G σ F H v x, EnvOk F0 H0 G σ F H → r (pk m F H0 H) v x → ∀ Q : L2.St → Hp → Prop,
  (∀ σ', (∀ F' H', Ex F F' → EnvOk F0 H0 G σ F' H' → EnvOk F0 H0 (up x G) σ' F' H') → (∀ vs, (∀ j ∈ tg, j ∈ vs) → wipe σ' vs = wipe σ vs) → Q σ' H) → g v σ H Q
theorem Egs.eg {α : Type} {H0 : Hp} {g : TG} {m : Md} {r : Rp α} {up : α → List Slot → List Slot} {tg : List Nat} (h : Egs H0 g m r up tg) : Eg H0 g m r up tg := fun F0 G σ F H v x E hv Q q => h F0 G σ F H v x E hv Q fun σ' a b => q σ' (a F H (Ex.refl F) E) b
theorem pslot_okS {α : Type} {m : Md} [h : Md.Ok m] {r : Rp α} {im : Mo r} {F H0 H F' H' : Hp} {v : V} {x : α} (e : Ex F F') (hr : r (pk m F H0 H) v x) : SlotOk H0 F' H' (some v) [] (pslot m r im x) := by
  cases m with
  | sh => exact ⟨v, rfl, im.ex e hr⟩
  | b0 => exact ⟨v, rfl, hr⟩
  | bo => exact absurd rfl h.ok
structure XG (C : Cn) (tg : Expr) (m : Md) {α : Type} (r : Rp α) (up : α → List Slot → List Slot) (tl : List Nat) : Prop where
  h : ∀ H0, Egs H0 (tG C.X tg) m r up tl
section
variable {C : Cn} {G : List Slot} {m m1 m2 : Md} {tg e a b : Expr} {x : Str} {p pos : Pos}
theorem xg_le {α : Type} {r : Rp α} {g : TG} {up : α → List Slot → List Slot} {tl : List Nat} (p : PG C.X tg g) (h : ∀ H0, Egs H0 g m r up tl) : XG C tg m r up tl := ⟨fun H0 F0 G σ F H v x E hv Q q => tG_le p (h H0 F0 G σ F H v x E hv Q q)⟩
theorem xg_name {α : Type} {r : Rp α} [im : Mo r] [Md.Ok m] (j : Nat) (hN : C.X.N[j]? = some x := by rfl) (hx : Loc C.X.env.scope x := by first | exact .inl rfl | exact .inr rfl) (hf : C.X.fn x = true ∨ C.X.env.scope.names.lookup x = some .local := by first | exact .inl rfl | exact .inr rfl) :
    XG C (.Name x pos) m r (fun x G => G.set j (pslot m r im x)) [j] := xg_le (pg_name C.nd hN hx hf) fun H0 F0 G σ F H v x E h Q q => q _ (fun F' H' e E' => E'.set (pslot_okS e h) pslot_no) fun vs hv => wipe_set (hv j List.mem_cons_self)
theorem ir_bind {α γ : Type} {rx : Rp α} {rz : Rp γ} {t : TE} {w : TI} {f : R Er α} {g : α → R Er (List γ)} {F0 H0 : Hp} (h : Dr C F0 H0 t G m1 rx f) (hx : ∀ x, Dx C F0 H0 t G x → Ix C F0 H0 w G x) (k : ∀ x, Ed F0 H0 t G m1 rx x → Ir C F0 H0 w G m rz (g x)) : Ir C F0 H0 w G m rz (f.bind g) := by
  cases f with
  | ok a => exact k a h
  | er y => exact hx y h
  | no => trivial
theorem Ir.le {γ : Type} {rz : Rp γ} {w u : TI} {f : R Er (List γ)} {F0 H0 : Hp} (h : Ir C F0 H0 w G m rz f) (le : ∀ σ H Q, w σ H Q → u σ H Q) : Ir C F0 H0 u G m rz f := by
  cases f with
  | ok xs => exact fun σ F H E Rr q => le _ _ _ (h σ F H E Rr q)
  | er y => exact fun σ F H E z Rr => le _ _ _ (h σ F H E z Rr)
  | no => trivial
theorem ir_iff {γ : Type} {rz : Rp γ} {w : TI} {c : Prop} [Decidable c] {xs : List γ} {F0 H0 : Hp} (h : c → Ei F0 H0 w G m rz xs) : Ir C F0 H0 w G m rz (R.iff c (.ok xs)) := by
  unfold R.iff
  by_cases hc : c
  · rw [if_pos hc]; exact h hc
  · rw [if_neg hc]; trivial
def rngR (n : Int) : R Er (List Int) := R.iff (n ≤ 16777216 ∧ -16777216 ≤ n) (.ok (rng n))
theorem xi_rng {f : R Er Int} (h : XE C a G m1 rInt f) (hm : C.X.mg "range" = none) (hg : Gl C.X "range" := by rfl) (hs : starEach [a] C.X.env = [(false, eval a C.X.env)] := by rfl) (he : starEach [a] C.X.env = (false, eval a C.X.env) :: starEach [] C.X.env := by exact star_cons rfl) :
    XI C tg (.Call (.Name "range" p) [a] [] pos) G .sh rInt (f.bind rngR) := ⟨fun F0 H0 =>
  Ir.le (ir_bind (w := iRng1 (tCons (tE C.X a) tNil)) (h.h F0 H0) (fun x z σ F H E w Rr => z σ F H E w _) fun n hn => ir_iff fun c => ei_rng1 hn c.1 c.2) fun _ _ _ q => tI_le (pi_range1 hg hm (pa_cons pE pa_nil he) hs) q⟩
theorem xi_list {α : Type} {r : Rp α} [Mo r] [Md.Ok m] {f : R Er (List α)} (h : XE C e G m (rLst r) f) : XI C tg e G m r f := ⟨fun F0 H0 => by
  have h := h.h F0 H0
  refine Ir.le (w := iList C.X.K (tE C.X e)) ?_ fun _ _ _ q => tI_le (pi_list pE) q
  cases f with
  | ok xs => exact ei_list h
  | er y => exact fun σ F H E w Rr => h σ F H E w _
  | no => trivial⟩
end
section
variable {C : Cn} {β ρ ε Z S S' T : Type} {J : Jn β ρ ε Z} {G : List Slot} {slk : S' → List Slot} {tg it : Expr} {rest body : List Stmt} {pos : Pos} {m : Md}
theorem xb_for {α : Type} {r : Rp α} {fx : R Er (List α)} {up : α → List Slot → List Slot} {tl : List Nat} {M : T → (S' → R ε ρ) → R ε ρ} (B : T → α → (T → R ε ρ) → R ε ρ) (slT : T → List Slot) (t0 : T) (z : Z) (hz : Lw G (J.slz z)) (h0 : Lw G (slT t0))
    (po : PassesOwn (model C.X.prog C.X.w) C.X.A C.X.env C.X.xe) (hi : XI C tg it G m r fx) (hg : XG C tg m r up tl) (G' : T → α → List Slot) (hG : ∀ t x, up x (slT t) = G' t x) (hb : ∀ t x, XB C J body (G' t x) slT (B t x)) (hr : ∀ t, XB C J rest (slT t) slk (M t))
    (hc : C.X.calm = true := by rfl) (hs : ∀ x, foldedSetIterable it C.X.env x = pure x := by intro _; rfl) :
    XB C J (.For tg it body [] pos :: rest) G slk (fun k => fx.thn (fun y => J.em y z) fun xs => runC B t0 xs fun t => M t k) := ⟨fun F0 H0 A D an k hk hA => by
  intro σ F H E
  have hi := hi.h F0 H0
  refine tS_le (pss_cons (ps_for po hc pI pG pS hs) pS) ?_
  cases fx with
  | ok xs =>
    refine gk_run (P := fun xs t => A (runC B t xs fun t => M t k)) (ups := fun t _ => slT t) t0 hi (hg.h H0).eg h0 hA (fun F1 b x rest' t hx hP => ?_) (fun t hP => (hr t).h F0 H0 A D an k hk hP) σ F H E
    rw [hG]
    exact (hb t x).h F1 H0 A ⟨_, D.rt, _, _⟩ (an.down b) _ (fun t' hA' => fun σ F H E => ⟨t', F, hA', E⟩) hP
  | er y => exact hi σ F H E (an.air hz hA E) _
  | no => exact (an.no hA).elim⟩
/-- .. that goes through: by values -/
theorem xb_forv0 {α : Type} {r : Rp α} {fx : R Er (List α)} {up : α → List Slot → List Slot} {tl : List Nat} {M : T → (S' → R ε ρ) → R ε ρ} {B : T → α → (T → R ε ρ) → R ε ρ} (st : T → α → R ε T) (slT : T → List Slot) (t0 : T) (z : Z) (hz : Lw G (J.slz z)) (h0 : Lw G (slT t0))
    (po : PassesOwn (model C.X.prog C.X.w) C.X.A C.X.env C.X.xe) (hi : XI C tg it G m r fx) (hg : XG C tg m r up tl) (G' : T → α → List Slot) (hG : ∀ t x, up x (slT t) = G' t x) (hb : ∀ t x, XB C J body (G' t x) slT (B t x)) (hB : ∀ t x k, B t x k = (st t x).bind k) (hr : ∀ t, XB C J rest (slT t) slk (M t))
    (hc : C.X.calm = true := by rfl) (hs : ∀ x, foldedSetIterable it C.X.env x = pure x := by intro _; rfl) :
    XB C J (.For tg it body [] pos :: rest) G slk (fun k => fx.thn (fun y => J.em y z) fun xs => (R.foldR st t0 xs).bind fun t => M t k) := ⟨fun F0 H0 A D an k hk hA => by
  refine (xb_for B slT t0 z hz h0 po hi hg G' hG hb hr hc hs).h F0 H0 A D an k hk ?_
  have e : (fun xs => runC B t0 xs fun t => M t k) = fun xs => (R.foldR st t0 xs).bind fun t => M t k := by
    funext xs; exact R.foldR_run hB xs t0 _
  show A (fx.thn _ fun xs => runC B t0 xs fun t => M t k)
  rw [e]; exact hA⟩
end
section
variable {C : Cn} {β ρ ε Z S S' T : Type} {J : Jn β ρ ε Z} {G : List Slot} {slk : S' → List Slot} {e : Expr} {rest : List Stmt} {pos : Pos} {m : Md}
theorem xn_nil {α : Type} {r : Rp α} [Mo r] : XN C (.List [] pos) G (fun xs => sL r xs) (.ok []) := ⟨fun F0 H0 => by
  have h := dv_en (en_lst (F0 := F0) (H0 := H0) (G := G) (el_nil (r := r)) (by simp))
  exact fun σ F H E Q q => tE_le (pe_lst pa_nil) (h σ F H E Q q)⟩
def appR {α : Type} (xs : List α) (a : α) : R ε (List α) := R.iff (xs.length < 16777216) (.ok (xs ++ [a]))
theorem xb_app {α : Type} {r : Rp α} [im : Mo r] {f : R Er α} {xs : List α} {iM : MoM (mL r xs)} {M : List α → (S' → R ε ρ) → R ε ρ} {x : Str} {p1 p2 p3 : Pos} (i : Nat) (G' : List α → List Slot) (z : Z) (hz : Lw G (J.slz z)) (hi : G[i]? = some (.ow (mL r xs) iM)) (he : XE C e G .sh r f) (hG : ∀ a, G.set i (sL r a) = G' a) (hr : ∀ a, XB C J rest (G' a) slk (M a))
    (hN : C.X.N[i]? = some x := by rfl) (hv : Vis C.X.env.scope x := by first | exact Or.inl rfl | exact Or.inr (Or.inl rfl) | exact Or.inr (Or.inr rfl)) (hd : (x == ("__debug__" : Str)) = false := by decide) (hcd : (x == ("__classdict__" : Str)) = false := by decide)
    (hbase : attributeBase (.Name x p1) "append" C.X.env (eval (.Name x p1) C.X.env) = eval (.Name x p1) C.X.env := by rfl)
    (hfew : ((backTo p3 (starEach [e] C.X.env)).all (fun x => !x.1) && (backToKw p3 (keywordEach [] C.X.env)).all (fun x => x.1.isSome) && decide ([e].length + ([] : List Keyword).length + (if ([] : List Keyword).isEmpty then 0 else 1) < 30)) = true := by rfl)
    (hline : (p2.endLine == p3.line) = true := by rfl) (hs : starEach [e] C.X.env = (false, eval e C.X.env) :: starEach [] C.X.env := by exact star_cons rfl) (hplain : (backTo p3 (starEach [] C.X.env)).any (·.1) = false := by rfl)
    (hsw : swapsWith (.Call (.Attribute (.Name x p1) "append" p2) [e] [] p3) none pos.line C.X.env = pure false := by rfl) :
    XB C J (.Expr (.Call (.Attribute (.Name x p1) "append" p2) [e] [] p3) pos :: rest) G slk (fun k => f.thn (fun y => J.em y z) fun a => (appR xs a).bind fun ys => M ys k) := ⟨fun F0 H0 A D an k hk hA σ F H E => by
  have he := he.h F0 H0
  refine tS_le (pss_cons (ps_expr (pe_bm PySem.F.plainAttrs_list PySem.F.slot_list_append PySem.F.type_list_append mt_append (pe_var hN hv hd hcd) (pa_cons pE pa_nil hs) hbase hfew hline hs hplain) hsw) pS) ?_
  cases f with
  | ok a =>
    unfold appR R.iff at hA
    by_cases hl : xs.length < 16777216
    · have hA : A (M (xs ++ [a]) k) := by simpa [hl] using hA
      exact gk_app hi he hl (hG (xs ++ [a]) ▸ (hr (xs ++ [a])).h F0 H0 A D an k hk hA) σ F H E
    · simp [hl] at hA; exact (an.no hA).elim
  | er y =>
    obtain ⟨q, vs, hx, h1, h2, h3, h4, h5⟩ := E.lst_at hi
    exact ⟨_, hx, .inl ⟨rfl, _, SqL.of h3⟩, he σ F H E (an.air hz hA E) _⟩
  | no => exact (an.no hA).elim⟩
/-- an own list is handed back -/
theorem xb_retO {α : Type} {r : Rp α} {xs : List α} {iM : MoM (mL r xs)} {x : Str} {p1 : Pos} (i : Nat) (z : Z) (hi : G[i]? = some (.ow (mL r xs) iM)) (b : β) (hb : J.rs b = .ow (mL r xs) iM) (hz : Lw (G.set i .no) (J.slz z))
    (hN : C.X.N[i]? = some x := by rfl) (hv : Vis C.X.env.scope x := by first | exact Or.inl rfl | exact Or.inr (Or.inl rfl) | exact Or.inr (Or.inr rfl)) (hd : (x == ("__debug__" : Str)) = false := by decide) (hcd : (x == ("__classdict__" : Str)) = false := by decide) :
    XB C J (.Return (some (.Name x p1)) pos :: rest) G slk (fun _ => .ok (J.ret b z)) := ⟨fun F0 H0 A D an k hk hA σ F H E => by
  refine tS_le (pss_cons (ps_ret (pe_var hN hv hd hcd)) pS) ?_
  obtain ⟨q, vs, hx, _⟩ := E.lst_at hi
  refine ⟨_, hx, an.ret b z hA σ F H _ ?_⟩
  have hl := E.len
  have hil : i < G.length := (List.getElem?_eq_some_iff.mp hi).1
  have E2 : EnvOk F0 H0 (.ow (mL r xs) iM :: G.set i .no) (some (.ref q) :: σ) F H := by
    refine E.re (fun j => match j with | 0 => i | n + 1 => n) (by simp [hl]) (fun j t hj => ?_) (fun j l e => ?_)
    · cases j with
      | zero => simp at hj; subst hj; exact ⟨⟨_, rfl⟩, .inr ⟨hi, by simp [hx]⟩⟩
      | succ j =>
        have hjl : j < σ.length := by rw [hl]; have := (List.getElem?_eq_some_iff.mp hj).1; simpa using this
        refine ⟨⟨σ[j], (List.getElem?_cons_succ).trans (List.getElem?_eq_getElem hjl)⟩, ?_⟩
        rcases set_get (show (G.set i .no)[j]? = some t by simpa using hj) with ⟨_, _, e⟩ | ⟨_, h⟩
        · exact .inl e.symm
        · exact .inr ⟨h, by simp⟩
    · cases j with
      | zero =>
        cases l with
        | zero => exact .inl rfl
        | succ l =>
          have e : i = l := e
          subst e
          exact .inr fun _ _ => .inr (by simp [List.getElem?_set_self hil])
      | succ j =>
        cases l with
        | zero =>
          have e : j = i := e
          subst e
          exact .inr fun _ _ => .inl (by simp [List.getElem?_set_self hil])
        | succ l => exact .inl (congrArg (· + 1) e)
  exact E2.weak ⟨.inr hb.symm, hz⟩⟩
/-- from now on it stays as it is -/
theorem xb_fz {α : Type} {r : Rp α} [im : Mo r] {xs : List α} {iM : MoM (mL r xs)} {M : (S' → R ε ρ) → R ε ρ} {st : List Stmt} (i : Nat) (G' : List Slot) (hi : G[i]? = some (.ow (mL r xs) iM)) (hG : G.set i (sF (rLst r) xs) = G') (h : XB C J st G' slk M) : XB C J st G slk M := ⟨fun F0 H0 A D an k hk hA => by
  subst hG
  exact gk_freeze i hi (h.h F0 H0 A D an k hk hA)⟩
end
def spR {α β : Type} (T : XT) (P : Pt α) (f : α → R Er β) (rs : β → Slot) : Sp := fun vs H Q E => ∃ F a, Ex F H ∧ P.ra F H H vs a ∧ f a ≠ .no ∧
  (∀ b, f a = .ok b → ∀ v F' H', EnvOk F H [rs b] [some v] F' H' → Q v H') ∧ (∀ er, f a = .er er → ErK T F H E er)
theorem spR_len {α β : Type} {T : XT} {P : Pt α} {f : α → R Er β} {rs : β → Slot} {vs : List V} {H : Hp} {Q : VK} {E : XK} (h : spR T P f rs vs H Q E) : vs.length = P.count := by
  obtain ⟨F, a, _, h, _⟩ := h; exact P.length h
/-- the context of a def's body -/
def cnD (P : Program) (w : World) (K : PySem.W.Frag) (mg : Str → Option Value) (base : Heap) (N : List Str) (nd : N.Nodup) (qual : Str) (sc : Scope) (f : Addr) (cdv : Value) (A : Around) (outer : List Env) (s : Shared) (H : Hp) (E : XK) (T : XT) : Cn where
  X := cxOf (L2.CX P w) P w K mg base N qual sc f cdv A outer s H E
  T := T
  W := fun cls d _ H => E cls d H
  tk := takes_of rfl rfl rfl rfl
  nd := nd
abbrev jnD {β : Type} (n : Nat) (rs : β → Slot) : Jn β β Er Unit := ⟨rs, fun b _ => b, fun _ => List.replicate n .no, fun e _ => e⟩
theorem cnD_po {P : Program} {w : World} {K : PySem.W.Frag} {mg : Str → Option Value} {base : Heap} {N : List Str} {nd : N.Nodup} {qual : Str} {sc : Scope} {f : Addr} {cdv : Value} {A : Around} {outer : List Env} {s : Shared} {H : Hp} {E : XK} {T : XT} : PassesOwn (model (cnD P w K mg base N nd qual sc f cdv A outer s H E T).X.prog (cnD P w K mg base N nd qual sc f cdv A outer s H E T).X.w) (cnD P w K mg base N nd qual sc f cdv A outer s H E T).X.A (cnD P w K mg base N nd qual sc f cdv A outer s H E T).X.env (cnD P w K mg base N nd qual sc f cdv A outer s H E T).X.xe := passes_of rfl
theorem lw_nos : ∀ {G : List Slot} {n : Nat}, G.length = n → Lw G (List.replicate n .no)
  | [], 0, _ => trivial
  | s :: G, n + 1, h => ⟨.inl rfl, lw_nos (by simpa using h)⟩
section
variable {P : Program} {w : World} {K : PySem.W.Frag} {mg : Str → Option Value} {base : Heap}
theorem ok_R {α β S' : Type} {X : XT} {T : Pt α} {f : α → R Er β} {rs : β → Slot} {x qual : Str} {st : Stmt} {fa : Addr} {fd : FuncData} {N ps : List Str} {k : Nat} (c : Nat) (Fn : Fun K x qual st fa fd) (S : FnScope N ps (defScope st)) (hc : N.length = T.count + c) (hps : ps.length = T.count)
    (kend : S' → R Er β) (hend : ∀ s b, kend s = .ok b → ∀ F H F' H', Gr F H F' H' → EnvOk F H [rs b] [some .non] F' H') (hend2 : ∀ s e, kend s ≠ .er e)
    (hbody : ∀ (cdv : Value) (A : Around) (outer : List Env) (s : Shared) (H : Hp) (E : XK) (hr : Room k (A.deeper (envOfC qual (defScope st) s.heap.objs.size fa cdv))) (a : α),
      ∃ (slk : S' → List Slot) (M : (S' → R Er β) → R Er β), XB (cnD P w K mg base N S.nd qual (defScope st) fa cdv A outer s H E X) (jnD N.length rs) (defBody st) (T.slots a ++ List.replicate c .no) slk M ∧ M kend = f a) :
    FnOk P w K mg base (L2.CX P w) (k + 1) fa fd ps (spR X T f rs) := by
  refine Fn.okX S (fun vs H Q E h => by rw [hps]; exact spR_len h) (fun cdv A outer s H vs Q E hr h => ?_)
  obtain ⟨F, a, e, ha, hno, q1, q2⟩ := h
  obtain ⟨slk, M, hB, hM⟩ := hbody cdv A outer s H E hr a
  refine ⟨_, pS, hB.h F H (fun r => r = f a) _ ⟨fun h => hno h.symm, fun b z h σ F' H' v EE => q1 b h.symm v F' H' EE.head, fun er z h σ F' H' cls d EE r => q2 er h.symm cls d F' H' EE.gr r⟩ kend (fun s' hs σ F' H' EE => ?_) hM _ F H (entry e ha c hc)⟩
  cases hk : kend s' with
  | ok b => exact q1 b (by rw [← hs, hk]) _ F' H' (hend s' b hk F H F' H' EE.gr)
  | er y => exact absurd hk (hend2 s' y)
  | no => rw [hk] at hs; exact absurd hs.symm hno
end
end LJ
set_option Elab.async false
set_option linter.all false
set_option maxRecDepth 100000
set_option maxHeartbeats 4000000
set_option autoImplicit false
namespace LJ
open PySem L2 LK LKX PyProof.Rows PySem.Spec
instance {n : Nat} {i : Int} : Decidable (ixOk n i) := by unfold ixOk; infer_instance
section
variable {C : Cn} {G : List Slot} {m m1 m2 : Md} {a b c e : Expr} {es rest : List Expr} {pos p apos : Pos} {x : Str}
theorem ds_iff {α : Type} {sb : α → Slot} {c : Prop} [Decidable c] {x : α} {F0 H0 : Hp} {t : TE} (h : c → Dv F0 H0 t G (sb x)) : Ds C F0 H0 t G sb (R.iff c (.ok x)) := by
  unfold R.iff
  by_cases hc : c
  · rw [if_pos hc]; exact h hc
  · rw [if_neg hc]; trivial
def ixTR (x : List Nat) (i : Int) : R Er (List Nat) := R.iff (ixOk x.length i) (.ok [ixD x i])
def ixR {α : Type} [Inhabited α] (x : List α) (i : Int) : R Er α := R.iff (ixOk x.length i) (.ok (ixD x i))
theorem xixT {f : R Er (List Nat)} {g : R Er Int} (ha : XE C a G m1 rTx f) (hb : XE C b G m2 rInt g) (hp : PlainIx b := by exact fun _ _ => rfl) : XE C (.Subscript a b pos) G .sh rTx (f.bind fun x => g.bind fun y => ixTR x y) := x2 ha hb (pe_ix ix_str pE pE hp) fun _ _ _ _ h1 h2 => dr_iff fun c => ed_ixT h1 h2 c
theorem xixL {α : Type} {r : Rp α} [Mo r] [Inhabited α] {f : R Er (List α)} {g : R Er Int} (ha : XE C a G m (rLst r) f) (hb : XE C b G m2 rInt g) (hp : PlainIx b := by exact fun _ _ => rfl) : XE C (.Subscript a b pos) G m r (f.bind fun x => g.bind fun y => ixR x y) := x2 ha hb (pe_ix ix_list pE pE hp) fun _ _ _ _ h1 h2 => dr_iff fun c => ed_ixL h1 h2 c
theorem xixS {f : R Er (List Int)} {g : R Er Int} (ha : XE C a G m1 (rScr C.X.K) f) (hb : XE C b G m2 rInt g) (hp : PlainIx b := by exact fun _ _ => rfl) : XE C (.Subscript a b pos) G .sh rInt (f.bind fun x => g.bind fun y => ixR x y) := x2 ha hb (pe_ix ix_list pE pE hp) fun _ _ _ _ h1 h2 => dr_iff fun c => ed_ixS h1 h2 c
theorem xnot {f : R Er Bool} (ha : XE C a G m1 rBl f) : XE C (.UnaryOp .Not a pos) G .sh rBl (f.bind fun x => .ok (!x)) := x1 ha (pe_not pE) (fun _ _ _ z σ F H E w Q => z σ F H E w _) fun _ _ _ h => ed_notV h
theorem xone {op : BoolOp} {f : R Er Bool} (ha : XE C a G m rBl f) : XE C (.BoolOp op [a] pos) G m rBl f := ⟨fun F0 H0 => (ha.h F0 H0).le fun _ _ _ q => tE_le (pe_one pE) q⟩
theorem xand {f g : R Er Bool} (ha : XE C a G m1 rBl f) (hb : XE C (.BoolOp .And (b :: rest) pos) G m2 rBl g) : XE C (.BoolOp .And (a :: b :: rest) pos) G .sh rBl (f.bind fun x => cond x g (.ok false)) := ⟨fun F0 H0 =>
  ((ha.h F0 H0).bind (t := tAndV (tE C.X a) (tE C.X (.BoolOp .And (b :: rest) pos))) (m1 := .sh) (r' := rBl) (fun x z σ F H E w Q => z σ F H E w _) fun x h1 => by
    have h2 := hb.h F0 H0
    cases x with
    | false => exact ed_andV (b := false) (m2 := .sh) h1 (fun z => nomatch z)
    | true =>
      show Dr C F0 H0 _ G .sh rBl g
      cases g with
      | ok y => exact (ed_andV h1 (fun _ => h2)).cast rfl
      | er e => exact fun σ F H E w Q => h1 σ F H E _ fun v F1 H1 g1 hv => ⟨true, hv, by rw [if_pos rfl]; exact h2 σ F1 H1 (E.gro g1) (fun F' H' cls d g z => w F' H' cls d (g1.trans g) z) Q⟩
      | no => trivial).le fun _ _ _ q => tE_le (pe_and pE pE) q⟩
theorem xor {f g : R Er Bool} (ha : XE C a G m1 rBl f) (hb : XE C (.BoolOp .Or (b :: rest) pos) G m2 rBl g) : XE C (.BoolOp .Or (a :: b :: rest) pos) G .sh rBl (f.bind fun x => cond x (.ok true) g) := ⟨fun F0 H0 =>
  ((ha.h F0 H0).bind (t := tOrV (tE C.X a) (tE C.X (.BoolOp .Or (b :: rest) pos))) (m1 := .sh) (r' := rBl) (fun x z σ F H E w Q => z σ F H E w _) fun x h1 => by
    have h2 := hb.h F0 H0
    cases x with
    | true => exact ed_orV (b := false) (m2 := .sh) h1 (fun z => nomatch z)
    | false =>
      show Dr C F0 H0 _ G .sh rBl g
      cases g with
      | ok y => exact (ed_orV h1 (fun _ => h2)).cast rfl
      | er e => exact fun σ F H E w Q => h1 σ F H E _ fun v F1 H1 g1 hv => ⟨false, hv, by rw [if_neg (by decide)]; exact h2 σ F1 H1 (E.gro g1) (fun F' H' cls d g z => w F' H' cls d (g1.trans g) z) Q⟩
      | no => trivial).le fun _ _ _ q => tE_le (pe_or pE pE) q⟩
theorem xif {α : Type} {r : Rp α} {f : R Er Bool} {g h : R Er α} (hc : XQ C c G f) (ha : XE C a G m r g) (hb : XE C b G m r h) : XE C (.IfExp c a b pos) G m r (f.bind fun x => cond x g h) := ⟨fun F0 H0 => by
  have hc := hc.h F0 H0; have ha := ha.h F0 H0; have hb := hb.h F0 H0
  refine Dr.le (t := tIf (tT C.X c) (tE C.X a) (tE C.X b)) ?_ fun _ _ _ q => tE_le (pe_ifExp pT pE pE) q
  cases f with
  | no => trivial
  | er e => exact fun σ F H E w Q => hc σ F H E w _
  | ok x =>
    cases x with
    | true =>
      show Dr C F0 H0 _ G m r g
      cases g with
      | ok y => exact (ed_if (b := y) hc (fun _ => ha) (fun z => nomatch z)).cast rfl
      | er e => exact fun σ F H E w Q => hc σ F H E _ fun F1 H1 g1 => by rw [if_pos rfl]; exact ha σ F1 H1 (E.gro g1) (fun F' H' cls d g z => w F' H' cls d (g1.trans g) z) Q
      | no => trivial
    | false =>
      show Dr C F0 H0 _ G m r h
      cases h with
      | ok y => exact (ed_if (a := y) hc (fun z => nomatch z) (fun _ => hb)).cast rfl
      | er e => exact fun σ F H E w Q => hc σ F H E _ fun F1 H1 g1 => by rw [if_neg (by decide)]; exact hb σ F1 H1 (E.gro g1) (fun F' H' cls d g z => w F' H' cls d (g1.trans g) z) Q
      | no => trivial⟩
theorem xcb1 {α γ : Type} {rx : Rp α} {rz : Rp γ} {r : List V → Hp → VK → Prop} {f : R Er α} {op : α → R Er γ} (ha : XE C a G m1 rx f) (q : PE C.X e (tCB r (tCons (tE C.X a) tNil)))
    (ho : ∀ F0 H0 x, Ed F0 H0 (tE C.X a) G m1 rx x → Dr C F0 H0 (tCB r (tCons (tE C.X a) tNil)) G m rz (op x)) : XE C e G m rz (f.bind op) := x1 ha q (fun _ _ _ z σ F H E w Q => z σ F H E w _) ho
theorem pB {id : String} {r : List V → Hp → VK → Prop} (hc : CallR C.X (.builtin id) r) (hm : C.X.mg x = none) (hv : bootBuiltins x = some (.builtin id)) (hg : Gl C.X x) (hn : x ≠ "__name__") (hdb : (x == ("__debug__" : Str)) = false)
    (he : starEach [a] C.X.env = (false, eval a C.X.env) :: starEach [] C.X.env) (hpl : (backTo pos (starEach [] C.X.env)).any (·.1) = false) : PE C.X (.Call (.Name x p) [a] [] pos) (tCB r (tCons (tE C.X a) tNil)) := pe_callB hc hg hm hv (pa_cons pE pa_nil he) hn hdb he hpl
theorem pTy {id : String} {r : List V → Hp → VK → Prop} (hc : CallR C.X (.type id) r) (hm : C.X.mg x = none) (hv : bootBuiltins x = some (.type id)) (hg : Gl C.X x) (hn : x ≠ "__name__") (hdb : (x == ("__debug__" : Str)) = false)
    (he : starEach [a] C.X.env = (false, eval a C.X.env) :: starEach [] C.X.env) (hpl : (backTo pos (starEach [] C.X.env)).any (·.1) = false) : PE C.X (.Call (.Name x p) [a] [] pos) (tCB r (tCons (tE C.X a) tNil)) := pe_callTy hc hg hm hv (pa_cons pE pa_nil he) hn hdb he hpl
section
variable (hg1 : Gl C.X "len" := by rfl) (he : starEach [a] C.X.env = (false, eval a C.X.env) :: starEach [] C.X.env := by exact star_cons rfl) (hpl : (backTo pos (starEach [] C.X.env)).any (·.1) = false := by rfl)
theorem xlenL {α : Type} {r : Rp α} {f : R Er (List α)} (ha : XE C a G m1 (rLst r) f) (hm : C.X.mg "len" = none) (hg : Gl C.X "len" := by rfl) (he : starEach [a] C.X.env = (false, eval a C.X.env) :: starEach [] C.X.env := by exact star_cons rfl) (hpl : (backTo pos (starEach [] C.X.env)).any (·.1) = false := by rfl) :
    XE C (.Call (.Name "len" p) [a] [] pos) G .sh rInt (f.bind fun x => .ok (x.length : Int)) := xcb1 ha (pB call_len_seq hm PySem.boot_len hg (by decide) (by decide) he hpl) fun _ _ _ h => ed_lenL h
theorem xlenU {α : Type} {r : Rp α} {f : R Er (List α)} (ha : XE C a G m1 (rTup r) f) (hm : C.X.mg "len" = none) (hg : Gl C.X "len" := by rfl) (he : starEach [a] C.X.env = (false, eval a C.X.env) :: starEach [] C.X.env := by exact star_cons rfl) (hpl : (backTo pos (starEach [] C.X.env)).any (·.1) = false := by rfl) :
    XE C (.Call (.Name "len" p) [a] [] pos) G .sh rInt (f.bind fun x => .ok (x.length : Int)) := xcb1 ha (pB call_len_seq hm PySem.boot_len hg (by decide) (by decide) he hpl) fun _ _ _ h => ed_lenU h
theorem xlenT {f : R Er (List Nat)} (ha : XE C a G m1 rTx f) (hm : C.X.mg "len" = none) (hg : Gl C.X "len" := by rfl) (he : starEach [a] C.X.env = (false, eval a C.X.env) :: starEach [] C.X.env := by exact star_cons rfl) (hpl : (backTo pos (starEach [] C.X.env)).any (·.1) = false := by rfl) :
    XE C (.Call (.Name "len" p) [a] [] pos) G .sh rInt (f.bind fun x => .ok (x.length : Int)) := xcb1 ha (pB call_len_str hm PySem.boot_len hg (by decide) (by decide) he hpl) fun _ _ _ h => ed_lenT h
theorem xlenS {f : R Er (List Int)} (ha : XE C a G m1 (rScr C.X.K) f) (hm : C.X.mg "len" = none) (hg : Gl C.X "len" := by rfl) (he : starEach [a] C.X.env = (false, eval a C.X.env) :: starEach [] C.X.env := by exact star_cons rfl) (hpl : (backTo pos (starEach [] C.X.env)).any (·.1) = false := by rfl) :
    XE C (.Call (.Name "len" p) [a] [] pos) G .sh rInt (f.bind fun x => .ok (x.length : Int)) := xcb1 ha (pB call_len_seq hm PySem.boot_len hg (by decide) (by decide) he hpl) fun _ _ _ h => ed_lenS h
theorem xintI {f : R Er Int} (ha : XE C a G m1 rInt f) (hm : C.X.mg "int" = none) (hg : Gl C.X "int" := by rfl) (he : starEach [a] C.X.env = (false, eval a C.X.env) :: starEach [] C.X.env := by exact star_cons rfl) (hpl : (backTo pos (starEach [] C.X.env)).any (·.1) = false := by rfl) :
    XE C (.Call (.Name "int" p) [a] [] pos) G .sh rInt (f.bind fun x => .ok x) := xcb1 ha (pTy call_int1 hm (by decide +kernel) hg (by decide) (by decide) he hpl) fun _ _ _ h => ed_intI h
theorem xtupL {α : Type} {r : Rp α} [Mo r] [Kp m1 r] {f : R Er (List α)} (ha : XE C a G m1 (rLst r) f) (hm : C.X.mg "tuple" = none) (hg : Gl C.X "tuple" := by rfl) (he : starEach [a] C.X.env = (false, eval a C.X.env) :: starEach [] C.X.env := by exact star_cons rfl) (hpl : (backTo pos (starEach [] C.X.env)).any (·.1) = false := by rfl) :
    XE C (.Call (.Name "tuple" p) [a] [] pos) G .sh (rTup r) f := by
  have h : XE C (.Call (.Name "tuple" p) [a] [] pos) G .sh (rTup r) (f.bind fun x => .ok x) := xcb1 ha (pTy call_tuple_of hm (by decide +kernel) hg (by decide) (by decide) he hpl) fun _ _ x h => ed_tupL h
  cases f <;> exact h
theorem xall {f : R Er (List Bool)} (ha : XE C a G m1 (rLst rBl) f) (hm : C.X.mg "all" = none) (hc : C.X.calm = true := by rfl) (hg : Gl C.X "all" := by rfl) (he : starEach [a] C.X.env = (false, eval a C.X.env) :: starEach [] C.X.env := by exact star_cons rfl) (hpl : (backTo pos (starEach [] C.X.env)).any (·.1) = false := by rfl) :
    XE C (.Call (.Name "all" p) [a] [] pos) G .sh rBl (f.bind fun x => .ok (x.all id)) := xcb1 ha (pB (cr_all hc) hm (by decide +kernel) hg (by decide) (by decide) he hpl) fun _ _ _ h => ed_all h
theorem xany {f : R Er (List Bool)} (ha : XE C a G m1 (rLst rBl) f) (hm : C.X.mg "any" = none) (hc : C.X.calm = true := by rfl) (hg : Gl C.X "any" := by rfl) (he : starEach [a] C.X.env = (false, eval a C.X.env) :: starEach [] C.X.env := by exact star_cons rfl) (hpl : (backTo pos (starEach [] C.X.env)).any (·.1) = false := by rfl) :
    XE C (.Call (.Name "any" p) [a] [] pos) G .sh rBl (f.bind fun x => .ok (x.any id)) := xcb1 ha (pB (cr_any hc) hm (by decide +kernel) hg (by decide) (by decide) he hpl) fun _ _ _ h => ed_any h
end
def XO (C : Cn) (o : Option Expr) (G : List Slot) (f : R Er (Option Int)) : Prop := ∃ t, PO C.X o t ∧ ∀ F0 H0, match f with
  | .ok i => Eo F0 H0 t G i
  | .er e => ∀ σ F H, EnvOk F0 H0 G σ F H → (∀ F' H' cls d, Gr F H F' H' → rEr C.T F' cls d e → C.W cls d σ H') → ∀ Q : Option Int → Hp → Prop, t σ H Q
  | .no => True
theorem xo_none : XO C none G (.ok none) := ⟨_, po_none, fun _ _ => eo_none⟩
theorem xo_some {f : R Er Int} (h : XE C a G m rInt f) : XO C (some a) G (f.bind fun i => .ok (some i)) := ⟨_, po_some pE, fun F0 H0 => by
  have h := h.h F0 H0
  cases f with
  | ok i => exact eo_some (te := tE C.X a) h
  | er e => exact fun σ F H E w Q => h σ F H E w _
  | no => trivial⟩
theorem xslL {α : Type} {r : Rp α} [Mo r] [Kp m1 r] {o1 o2 : Option Expr} {f : R Er (List α)} {g h : R Er (Option Int)} {sp : Pos} (ha : XE C a G m1 (rLst r) f) (h1 : XO C o1 G g) (h2 : XO C o2 G h) : XN C (.Subscript a (.Slice o1 o2 none sp) pos) G (fun xs => sL r xs) (f.bind fun x => g.bind fun i => h.bind fun j => .ok (cutL x i j)) := ⟨fun F0 H0 => by
  obtain ⟨tl, pl, hl⟩ := h1
  obtain ⟨th, ph, hh⟩ := h2
  have ha := ha.h F0 H0; have hl := hl F0 H0; have hh := hh F0 H0
  refine Ds.le (t := tSl (rSlL C.X.K) (tE C.X a) tl th) ?_ fun _ _ _ q => tE_le (pe_slice sl_list pE pl ph) q
  cases f with
  | no => trivial
  | er e => exact fun σ F H E w Q => ha σ F H E w _
  | ok x =>
    cases g with
    | no => trivial
    | er e => exact fun σ F H E w Q => ha σ F H E _ fun v F1 H1 g1 _ => hl σ F1 H1 (E.gro g1) (fun F' H' cls d g z => w F' H' cls d (g1.trans g) z) _
    | ok i =>
      cases h with
      | no => trivial
      | er e => exact fun σ F H E w Q => ha σ F H E _ fun v F1 H1 g1 _ => hl σ F1 H1 (E.gro g1) _ fun F2 H2 g2 => hh σ F2 H2 ((E.gro g1).gro g2) (fun F' H' cls d g z => w F' H' cls d ((g1.trans g2).trans g) z) _
      | ok j => exact dv_en (en_slL ha hl hh)⟩
/-- ''.join(list of texts) -/
def joinR (x : List Nat) (xs : List (List Nat)) : R Er (List Nat) := R.iff (x = [] ∧ xs.flatten.length ≤ 16777216) (.ok xs.flatten)
theorem xjoin {f : R Er (List Nat)} {g : R Er (List (List Nat))} (ha : XE C a G m1 rTx f) (hb : XE C b G m2 (rLst rTx) g) (hs : starEach [b] C.X.env = [(false, eval b C.X.env)] := by rfl) (hbase : attributeBase a "join" C.X.env (eval a C.X.env) = eval a C.X.env := by rfl) (hline : (apos.endLine == pos.line) = true := by rfl) :
    XE C (.Call (.Attribute a "join" apos) [b] [] pos) G .sh rTx (f.bind fun x => g.bind fun xs => joinR x xs) := ⟨fun F0 H0 => by
  have ha := ha.h F0 H0; have hb := hb.h F0 H0
  refine Dr.le (t := tM1 (rJoin C.X.K) (tE C.X a) (tE C.X b)) ?_ fun _ _ _ q => tE_le (kJoin _ pE pE rfl hs hbase hline) q
  cases f with
  | no => trivial
  | er e => exact fun σ F H E w Q => ha σ F H E w _
  | ok x =>
    cases g with
    | no => trivial
    | er e => exact fun σ F H E w Q => ha σ F H E _ fun v F1 H1 g1 hv => ⟨⟨_, hv.1⟩, hb σ F1 H1 (E.gro g1) (fun F' H' cls d g z => w F' H' cls d (g1.trans g) z) _⟩
    | ok xs =>
      refine dr_iff fun c => ?_
      obtain ⟨rfl, c⟩ := c
      exact ed_join ha hb c⟩
end
end LJ
set_option Elab.async false
set_option linter.all false
set_option maxRecDepth 100000
set_option maxHeartbeats 4000000
set_option autoImplicit false
namespace LJ
open PySem L2 LK LKX PyProof.Rows PySem.Spec
section
variable {C : Cn} {G : List Slot} {m m1 m2 : Md} {a b c e : Expr} {es rest : List Expr} {pos p apos : Pos} {x : Str} {tn : Nat}
def Ar (C : Cn) (F0 H0 : Hp) (t : TA) (G : List Slot) {α : Type} (ok : α → Prop) : R Er α → Prop
  | .ok a => ok a
  | .er e => ∀ σ F H, EnvOk F0 H0 G σ F H → (∀ F' H' cls d, Gr F H F' H' → rEr C.T F' cls d e → C.W cls d σ H') → ∀ Q : List V → Hp → Prop, t σ H Q
  | .no => True
structure XL (C : Cn) (es : List Expr) (G : List Slot) {α : Type} (r : Rp α) (f : R Er (List α)) : Prop where
  h : ∀ F0 H0, Ar C F0 H0 (tA C.X es) G (fun xs => El F0 H0 (tA C.X es) G r xs) f
structure XA (C : Cn) (es : List Expr) (G : List Slot) {α : Type} (P : Pt α) (f : R Er α) : Prop where
  h : ∀ F0 H0, Ar C F0 H0 (tA C.X es) G (fun a => Ea F0 H0 (tA C.X es) G P.ra a) f
theorem xl_nil {α : Type} {r : Rp α} : XL C [] G r (.ok []) := ⟨fun F0 H0 σ F H E Q q => tA_le pa_nil (el_nil (F0 := F0) (H0 := H0) σ F H E Q q)⟩
theorem xl_cons {α : Type} {r : Rp α} [Mo r] {f : R Er α} {g : R Er (List α)} (ha : XE C e G .sh r f) (hr : XL C es G r g) (hs : starEach (e :: es) C.X.env = (false, eval e C.X.env) :: starEach es C.X.env := by exact star_cons rfl) : XL C (e :: es) G r (f.bind fun x => g.bind fun xs => .ok (x :: xs)) := ⟨fun F0 H0 => by
  have ha := ha.h F0 H0; have hr := hr.h F0 H0
  have le : ∀ σ H Q, tCons (tE C.X e) (tA C.X es) σ H Q → tA C.X (e :: es) σ H Q := fun _ _ _ q => tA_le (pa_cons pE pA hs) q
  cases f with
  | no => trivial
  | er y => exact fun σ F H E w Q => le _ _ _ (ha σ F H E w _)
  | ok x =>
    cases g with
    | no => trivial
    | er y => exact fun σ F H E w Q => le _ _ _ (ha σ F H E _ fun v F1 H1 g1 _ => hr σ F1 H1 (E.gro g1) (fun F' H' cls d g z => w F' H' cls d (g1.trans g) z) _)
    | ok xs => exact fun σ F H E Q q => le _ _ _ (el_cons ha hr σ F H E Q q)⟩
theorem xa_nil : XA C [] G .nil (.ok ()) := ⟨fun F0 H0 σ F H E Q q => tA_le pa_nil (ea_nil (F0 := F0) (H0 := H0) σ F H E Q q)⟩
theorem xa_cons {α β : Type} {r : Rp α} [im : Mo r] {P : Pt β} {f : R Er α} {g : R Er β} (ha : XE C e G m r f) (hr : XA C es G P g) (hs : starEach (e :: es) C.X.env = (false, eval e C.X.env) :: starEach es C.X.env := by exact star_cons rfl) : XA C (e :: es) G (.cons m r im P) (f.bind fun x => g.bind fun xs => .ok (x, xs)) := ⟨fun F0 H0 => by
  have ha := ha.h F0 H0; have hr := hr.h F0 H0
  have le : ∀ σ H Q, tCons (tE C.X e) (tA C.X es) σ H Q → tA C.X (e :: es) σ H Q := fun _ _ _ q => tA_le (pa_cons pE pA hs) q
  cases f with
  | no => trivial
  | er y => exact fun σ F H E w Q => le _ _ _ (ha σ F H E w _)
  | ok x =>
    cases g with
    | no => trivial
    | er y => exact fun σ F H E w Q => le _ _ _ (ha σ F H E _ fun v F1 H1 g1 _ => hr σ F1 H1 (E.gro g1) (fun F' H' cls d g z => w F' H' cls d (g1.trans g) z) _)
    | ok xs => exact fun σ F H E Q q => le _ _ _ (ea_cons ha hr σ F H E Q q)⟩
/-- a list display -/
def lenR {α : Type} (xs : List α) : R Er (List α) := R.iff (xs.length ≤ 16777216) (.ok xs)
theorem xn_lst {α : Type} {r : Rp α} [Mo r] {f : R Er (List α)} (h : XL C es G r f) : XN C (.List es pos) G (fun xs => sL r xs) (f.bind lenR) := ⟨fun F0 H0 => by
  have h := h.h F0 H0
  refine Ds.le (t := tLst (tA C.X es)) ?_ fun _ _ _ q => tE_le (pe_lst pA) q
  cases f with
  | no => trivial
  | er y => exact fun σ F H E w Q => h σ F H E w _
  | ok xs => exact ds_iff fun c => dv_en (en_lst h c)⟩
theorem xtup {α : Type} {r : Rp α} [Mo r] {f : R Er (List α)} (h : XL C es G r f) : XE C (.Tuple es tn pos) G .sh (rTup r) (f.bind lenR) := ⟨fun F0 H0 => by
  have h := h.h F0 H0
  refine Dr.le (t := tTup (tA C.X es)) ?_ fun _ _ _ q => tE_le (pe_tup pA) q
  cases f with
  | no => trivial
  | er y => exact fun σ F H E w Q => h σ F H E w _
  | ok xs => exact dr_iff fun c => ed_tup h c⟩
theorem xsome {α : Type} {r : Rp α} {f : R Er α} (h : XE C e G m r f) : XE C e G m (rOpt r) (f.bind fun x => .ok (some x)) := ⟨fun F0 H0 => by
  have h := h.h F0 H0
  cases f with
  | no => trivial
  | er y => exact h
  | ok x => exact ed_some h⟩
theorem envRebase {F H F1 H1 F2 H2 : Hp} {s : Slot} {x : Option V} (g : Gr F H F1 H1) (E : EnvOk F1 H1 [s] [x] F2 H2) (hn : Slot.nb s) : EnvOk F H [s] [x] F2 H2 := by
  obtain ⟨fp, E⟩ := E
  refine ⟨fp, g.trans E.gr, E.len, fun i t h => ?_, E.dj⟩
  obtain ⟨y, hy, ok⟩ := E.at_ i t h
  refine ⟨y, hy, ?_⟩
  cases i with
  | succ i => simp at h
  | zero =>
    have h : s = t := Option.some.inj h
    subst h
    cases s with
    | no => trivial
    | fz r im a => exact ok
    | bw r im a => exact hn.elim
    | ow M im =>
      obtain ⟨q, e, h1, h2⟩ := ok
      exact ⟨q, e, fun a ha => ⟨(h1 a ha).1, g.hh.back (h1 a ha).2⟩, h2⟩
theorem xcall {α β : Type} {P : Pt α} {fn : α → R Er β} {rs : β → Slot} {g : R Er α} {k n : Nat} {f : Addr} {fd : FuncData} {ps : List Str} (Cl : Cal C.X.K C.X.mg x f fd ps) (Fo : FnOk C.X.prog C.X.w C.X.K C.X.mg C.X.base (L2.CX C.X.prog C.X.w) k f fd ps (spR C.T P fn rs)) (hr : Room n C.X.A) (ha : XA C (e :: es) G P g)
    (hn : ∀ b, Slot.nb (rs b) := by intro; trivial) (hk : k ≤ n := by decide) (hg : Gl C.X x := by rfl) (hdb : (x == ("__debug__" : Str)) = false := by decide)
    (he : starEach (e :: es) C.X.env = (false, eval e C.X.env) :: starEach es C.X.env := by exact star_cons rfl) (hpl : (backTo pos (starEach es C.X.env)).any (·.1) = false := by rfl) : XN C (.Call (.Name x p) (e :: es) [] pos) G rs (g.bind fn) := ⟨fun F0 H0 => by
  have ha := ha.h F0 H0
  refine Ds.le (t := tCallS (spR C.T P fn rs) (WE C.W) (tA C.X (e :: es))) ?_ fun _ _ _ q => tE_le (pe_callS Fo (hr.mono hk) hg Cl.mg Cl.kp Cl.bi (fun σ => passAt C.tk σ) pA hdb he hpl) q
  cases g with
  | no => trivial
  | er y => exact fun σ F H E w Q => ha σ F H E w _
  | ok a =>
    show Ds C F0 H0 _ G rs (fn a)
    cases hf : fn a with
    | no => trivial
    | er y => exact fun σ F H E w Q => ha σ F H E _ fun vs F1 H1 g1 h1 => ⟨F1, a, g1.fh, Pt.now P (E.gr.trans g1) h1, by rw [hf]; exact fun z => (nomatch z), fun c hc => (by rw [hf] at hc; cases hc), fun er' he cls d F2 H2 g2 r => by
        rw [hf] at he; cases he
        exact w F2 H2 cls d (g1.trans g2) r⟩
    | ok b => exact fun σ F H E Q q => ha σ F H E _ fun vs F1 H1 g1 h1 => ⟨F1, a, g1.fh, Pt.now P (E.gr.trans g1) h1, by rw [hf]; exact fun z => (nomatch z), fun c hc v F2 H2 E2 => by
        rw [hf] at hc; cases hc
        exact q v F2 H2 (g1.trans E2.gr) (envRebase g1 E2 (hn b)), fun er' he => (by rw [hf] at he; cases he)⟩⟩
end
/-- the context of a comprehension's block -/
abbrev cnB (C : Cn) (s : Shared) (H : Hp) (scope : Scope) (Cc : Addr) (cl : List (Str × Addr)) (fp : List Addr) : Cn where
  X := C.X.blk s H scope (compEnvC scope cl Cc C.X.env) fp
  T := C.T
  W := fun _ _ _ _ => False
  tk := takes0
  nd := C.nd
section
variable {C : Cn} {G : List Slot} {m m1 m2 : Md} {a b c elt tg it e : Expr} {ifs : List Expr} {scope : Scope} {pos p apos : Pos} {x : Str}
/-- the canonical readings of a block's parts -/
def bE (X : Cx) (scope : Scope) (e : Expr) : TE := fun σ H Q => ∀ (s : Shared) (H0 : Hp) (Cc : Addr) (cl : List (Str × Addr)) (fp : List Addr), tE (X.blk s H0 scope (compEnvC scope cl Cc X.env) fp) e σ H Q
def bG (X : Cx) (scope : Scope) (tg : Expr) : TG := fun v σ H Q => ∀ (s : Shared) (H0 : Hp) (Cc : Addr) (cl : List (Str × Addr)) (fp : List Addr), tG (X.blk s H0 scope (compEnvC scope cl Cc X.env) fp) tg v σ H Q
theorem dr_noer {α : Type} {r : Rp α} {F0 H0 : Hp} {G : List Slot} {f : R Er α} {a : α} {X : Cx} {T : XT} {tk nd} (h : Dr ⟨X, T, fun _ _ _ _ => False, tk, nd⟩ F0 H0 (tE X e) G m r f) (hf : (f.noer : R Er α) = .ok a) : Ed F0 H0 (tE X e) G m r a := by
  cases f with
  | ok b => cases hf; exact h
  | er y => cases hf
  | no => cases hf
theorem map_ok {α β ε δ : Type} [Inhabited β] {p : α → R ε Bool} {f : α → R ε β} : ∀ {xs : List α} {ys : List β}, (R.mapR p f xs : R δ (List β)) = .ok ys → ∃ (p' : α → Bool) (f' : α → β), (∀ x ∈ xs, (p x).noer = (.ok (p' x) : R δ Bool) ∧ (p' x = true → (f x).noer = (.ok (f' x) : R δ β))) ∧ ys = (xs.filter p').map f' := by
  intro xs
  have key : ∀ {xs : List α} {ys : List β}, (R.mapR p f xs : R δ (List β)) = .ok ys → (∀ x ∈ xs, (p x).noer = (.ok (match p x with | .ok b => b | _ => false) : R δ Bool) ∧ ((match p x with | .ok b => b | _ => false) = true → (f x).noer = (.ok (match f x with | .ok y => y | _ => default) : R δ β))) ∧ ys = (xs.filter fun x => match p x with | .ok b => b | _ => false).map fun x => match f x with | .ok y => y | _ => default := by
    intro xs
    induction xs with
    | nil => intro ys h; cases h; exact ⟨fun _ z => (nomatch z), rfl⟩
    | cons x xs ih =>
      intro ys h
      unfold R.mapR at h
      cases hp : p x with
      | er y => rw [hp] at h; cases h
      | no => rw [hp] at h; cases h
      | ok b =>
        rw [hp] at h
        cases b with
        | false =>
          have h : (R.mapR p f xs : R δ (List β)) = .ok ys := h
          obtain ⟨h1, h2⟩ := ih h
          refine ⟨fun y hy => ?_, by rw [h2]; simp [hp]⟩
          rcases List.mem_cons.mp hy with e | hy
          · subst e; rw [hp]; exact ⟨rfl, fun z => nomatch z⟩
          · exact h1 y hy
        | true =>
          cases hf : f x with
          | er y => simp only [R.noer, hf, R.ok_bind, cond_true, R.no_bind] at h; cases h
          | no => simp only [R.noer, hf, R.ok_bind, cond_true, R.no_bind] at h; cases h
          | ok y =>
            simp only [R.noer, hf, R.ok_bind, cond_true] at h
            cases hm : (R.mapR p f xs : R δ (List β)) with
            | er z => rw [hm] at h; cases h
            | no => rw [hm] at h; cases h
            | ok zs =>
              rw [hm] at h
              cases h
              obtain ⟨h1, h2⟩ := ih hm
              refine ⟨fun z hz => ?_, by rw [h2]; simp [hp, hf]⟩
              rcases List.mem_cons.mp hz with e | hz
              · subst e; rw [hp, hf]; exact ⟨rfl, fun _ => rfl⟩
              · exact h1 z hz
  intro ys h
  exact ⟨_, _, key h⟩
/-- a comprehension as a value, and where it is stored -/
structure LcP (X : Cx) (e : Expr) (t : TE) : Prop where
  val : PE X e t
  set : ∀ {i : Nat} {y : Str} {py spos : Pos}, X.N[i]? = some y → X.env.scope.names.lookup y = some .local → swapsWith e (some (.Name y py)) spos.line X.env = pure true → PS X (.Assign [.Name y py] e spos) (tAsg t (gName i))
def XLc (C : Cn) (e : Expr) (G : List Slot) {α : Type} (sb : α → Slot) (f : R Er α) : Prop := ∃ t, LcP C.X e t ∧ ∀ F0 H0, Ds C F0 H0 t G sb f
theorem xnlc {α : Type} {sb : α → Slot} {f : R Er α} (h : XLc C e G sb f) : XN C e G sb f := ⟨fun F0 H0 => by
  obtain ⟨t, p, h⟩ := h
  exact (h F0 H0).le fun _ _ _ q => tE_le p.val q⟩
def tTs (X : Cx) (ifs : List Expr) : TT := fun σ H Q => ∀ (pins : List (Addr × Obj)) (s : Shared), Inv X pins σ H s →
    wpAny (model X.prog X.w) X.A (forIn ifs true fun c r => if r = true then do let ok ← isTrue c X.env (eval c X.env); pure (ForInStep.yield ok) else pure (ForInStep.yield r)) (TP X pins σ Q) X.xe s
theorem tTs_le {X : Cx} {u : TT} (h : PTs X ifs u) {σ : L2.St} {H : Hp} {Q : Bool → Hp → Prop} (q : u σ H Q) : tTs X ifs σ H Q := fun pins s I => h.run pins s σ H Q I q
structure XQs (C : Cn) (ifs : List Expr) (G : List Slot) (f : R Er Bool) : Prop where
  h : ∀ F0 H0, Tr C F0 H0 (tTs C.X ifs) G f
theorem xqs0 : XQs C [] G (.ok true) := ⟨fun F0 H0 σ F H E Q q => tTs_le pts_nil (q F H (Gr.refl E.gr.fh))⟩
theorem xqs1 {f : R Er Bool} (h : XQ C c G f) : XQs C [c] G f := ⟨fun F0 H0 => (h.h F0 H0).le fun _ _ _ q => tTs_le (pts_one pT) q⟩
def bTs (X : Cx) (scope : Scope) (ifs : List Expr) : TT := fun σ H Q => ∀ (s : Shared) (H0 : Hp) (Cc : Addr) (cl : List (Str × Addr)) (fp : List Addr), tTs (X.blk s H0 scope (compEnvC scope cl Cc X.env) fp) ifs σ H Q
theorem tr_noers {F0 H0 : Hp} {G : List Slot} {f : R Er Bool} {a : Bool} {t : TT} {C : Cn} (hW : C.W = fun _ _ _ _ => False) (h : Tr C F0 H0 t G f) (hf : (f.noer : R Er Bool) = .ok a) : Et F0 H0 t G a := by
  cases f with
  | ok b => cases hf; exact h
  | er y => cases hf
  | no => cases hf
theorem mapR_ner {α β ε δ : Type} {p : α → R ε Bool} {f : α → R ε β} {y : δ} : ∀ xs : List α, (R.mapR p f xs : R δ (List β)) ≠ .er y := by
  intro xs
  induction xs with
  | nil => intro h; cases h
  | cons x xs ih =>
    intro h
    unfold R.mapR at h
    cases hp : p x with
    | er y => rw [hp] at h; cases h
    | no => rw [hp] at h; cases h
    | ok b =>
      rw [hp] at h
      cases b with
      | false => exact ih h
      | true =>
        cases hf : f x with
        | er y => simp only [R.noer, hf, R.ok_bind, cond_true, R.no_bind] at h; cases h
        | no => simp only [R.noer, hf, R.ok_bind, cond_true, R.no_bind] at h; cases h
        | ok y =>
          simp only [R.noer, hf, R.ok_bind, cond_true] at h
          cases hm : (R.mapR p f xs : R δ (List β)) with
          | er z => rw [hm] at h; cases h; exact ih hm
          | no => rw [hm] at h; cases h
          | ok zs => rw [hm] at h; cases h
/-- [elt for tg in it if ..] -/
theorem xlc {α β : Type} [Inhabited β] {r : Rp α} {r' : Rp β} [Mo r'] {fx : R Er (List α)} {up : α → List Slot → List Slot} {tl : List Nat} {pf : α → R Er Bool} {ff : α → R Er β} (own : List (Str × Nat)) (G' : α → List Slot)
    (hi : XI C tg it G m r fx) (hg : ∀ s H Cc cl fp, XG (cnB C s H scope Cc cl fp) tg m r up tl) (hG : ∀ x, up x (wipeG G (own.map (·.2))) = G' x)
    (ht : ∀ s H Cc cl fp x, XQs (cnB C s H scope Cc cl fp) ifs (G' x) (pf x)) (he : ∀ s H Cc cl fp x, XE (cnB C s H scope Cc cl fp) elt (G' x) .sh r' (ff x)) (hc : C.X.calm = true := by rfl) (hv : tl.all (fun j => decide (j ∈ own.map (·.2))) = true := by decide) (ok : blkC C.X.N C.X.env.scope scope own = true := by decide +kernel) (hs : ∀ x, foldedSetIterable it C.X.env x = pure x := by intro _; rfl) :
    XLc C (.ListComp elt [⟨tg, it, ifs, 0⟩] scope pos) G (fun xs => sL r' xs) (fx.bind fun xs => R.mapR pf ff xs) := by
  have a1 : ∀ (s : Shared) (H : Hp) (Cc : Addr) (cl : List (Str × Addr)) (fp : List Addr), PG (C.X.blk s H scope (compEnvC scope cl Cc C.X.env) fp) tg (bG C.X scope tg) := fun s H Cc cl fp => ⟨fun pins s' σ H' v u Q I r h => h s H Cc cl fp pins s' u I r⟩
  have a2 : ∀ (s : Shared) (H : Hp) (Cc : Addr) (cl : List (Str × Addr)) (fp : List Addr), PTs (C.X.blk s H scope (compEnvC scope cl Cc C.X.env) fp) ifs (bTs C.X scope ifs) := fun s H Cc cl fp => ⟨fun pins s' σ H' Q I h => h s H Cc cl fp pins s' I⟩
  have a3 : ∀ (s : Shared) (H : Hp) (Cc : Addr) (cl : List (Str × Addr)) (fp : List Addr), PE (C.X.blk s H scope (compEnvC scope cl Cc C.X.env) fp) elt (bE C.X scope elt) := fun s H Cc cl fp => ⟨fun pins s' σ H' Q I h => h s H Cc cl fp pins s' I⟩
  refine ⟨tLc (tI C.X tg it) (bG C.X scope tg) (bTs C.X scope ifs) (bE C.X scope elt) (own.map (·.2)), ⟨pe_lc hc C.nd pI (blkOk_by ok) a1 a2 a3 hs, fun hy hyl hsw => ps_setLc hc C.nd hy hyl hsw pI (blkOk_by ok) a1 a2 a3 hs⟩, fun F0 H0 => ?_⟩
  have hi := hi.h F0 H0
  cases fx with
  | no => trivial
  | er y => exact fun σ F H E w Q => hi σ F H E w _
  | ok xs =>
    show Ds C F0 H0 _ G _ (R.mapR pf ff xs)
    cases hm : (R.mapR pf ff xs : R Er (List β)) with
    | no => trivial
    | er y => exact absurd hm (mapR_ner xs)
    | ok ys =>
      obtain ⟨p', f', h1, rfl⟩ := map_ok hm
      refine dv_en (en_lc p' f' hi (m := m) (r := r) (up := up) (tg := tl) (fun F0 G σ F H v x E hv Q q s H1 Cc cl fp => ((hg s H1 Cc cl fp).h H0).eg F0 G σ F H v x E hv Q q) (fun j hj => of_decide_eq_true (List.all_eq_true.mp hv j hj)) (fun F1 b x hx => ?_) (fun F1 b x hx hp => ?_))
      · rw [hG]
        exact fun σ F H E Q q s H1 Cc cl fp => tr_noers rfl ((ht s H1 Cc cl fp x).h F1 H0) (h1 x hx).1 σ F H E Q q
      · rw [hG]
        exact fun σ F H E Q q s H1 Cc cl fp => dr_noer ((he s H1 Cc cl fp x).h F1 H0) ((h1 x hx).2 hp) σ F H E Q q
end
section
variable {C : Cn} {β ρ ε Z S' : Type} {J : Jn β ρ ε Z} {G : List Slot} {slk : S' → List Slot} {rest : List Stmt} {elt : Expr} {gs : List Comprehension} {scope : Scope} {lpos pos : Pos}
theorem xb_setLc {α : Type} {sb : α → Slot} {f : R Er α} {M : α → (S' → R ε ρ) → R ε ρ} {x : Str} {pos' : Pos} (i : Nat) (G' : α → List Slot) (z : Z) (hz : Lw G (J.slz z)) (he : XLc C (.ListComp elt gs scope lpos) G sb f) (hG : ∀ a, G.set i (sb a) = G' a) (hr : ∀ a, XB C J rest (G' a) slk (M a)) (hn : ∀ a, Slot.nb (sb a) := by intro; trivial)
    (hi : C.X.N[i]? = some x := by rfl) (hx : C.X.env.scope.names.lookup x = some .local := by rfl) (hk : C.X.env.scope.kind = .function := by rfl) (hl : (pos'.line == lpos.line) = true := by rfl) (ha : (scope.names.any fun (n, k) => n == x && (k == .local || k == .cell)) = false := by decide +kernel) :
    XB C J (.Assign [.Name x pos'] (.ListComp elt gs scope lpos) pos :: rest) G slk (fun k => f.thn (fun y => J.em y z) fun a => M a k) := ⟨fun F0 H0 A D an k hk' hA σ F H E => by
  obtain ⟨t, p, he⟩ := he
  have he := he F0 H0
  refine tS_le (pss_cons (p.set hi hx (sw_true hk hx hl ha)) pS) ?_
  cases f with
  | ok a => exact he σ F H E _ fun v F' H' g E' => (hr a).h F0 H0 A D an k hk' hA _ F' H' (hG a ▸ (envJoin E g E' (hn a)).move)
  | er y => exact he σ F H E (an.air hz hA E) _
  | no => exact (an.no hA).elim⟩
end
end LJ
set_option Elab.async false
set_option linter.all false
set_option maxRecDepth 100000
set_option maxHeartbeats 4000000
set_option autoImplicit false
namespace LJ
open PySem L2 LK LKX PyProof.Rows PySem.Spec
/-- what is known of an own error's class of one field -/
structure XK1 (P : Program) (w : World) (K : PySem.W.Frag) (mg : Str → Option Value) (xt : XT) (x : Str) (k : Nat) (f : Str) : Prop extends Xk P w K mg xt x k f where
  xf : XfC K (xt.cls k)
  hno : PySem.W.findIn K (.ref (xt.cls k)) f = some none
  ex : ExcC K (xt.cls k)
section
variable {C : Cn} {β ρ ε Z S' S1 Zx : Type} {J : Jn β ρ ε Z} {G : List Slot} {slk : S' → List Slot} {rest body suite : List Stmt} {e : Expr} {pos p pos2 : Pos} {m : Md}
theorem xb_raise1 {α : Type} {r : Rp α} [Mo r] [t : Tod r] {f : R Er α} {x fl : Str} {k j : Nat} (z : Z) (hz : Lw G (J.slz z)) (X1 : Xk C.X.prog C.X.w C.X.K C.X.mg C.T x k fl) (hr : Room (j + 1) C.X.A) (he : XE C e G .sh r f) (hc : C.X.calm = true := by rfl) (hg : Gl C.X x := by rfl)
    (hdb : (x == ("__debug__" : Str)) = false := by decide) (hs : starEach [e] C.X.env = (false, eval e C.X.env) :: starEach [] C.X.env := by exact star_cons rfl) :
    XB C J (.Raise (some (.Call (.Name x p) [e] [] pos)) none pos2 :: rest) G slk (fun _ => f.thn (fun y => J.em y z) fun a => .er (J.em (k, [t.d a]) z)) := ⟨fun F0 H0 A D an k' hk hA σ F H E => by
  have he := he.h F0 H0
  refine tS_le (pss_cons (ps_raise1 X1 hr C.tk (pa_cons pE pa_nil hs) hc hg hdb hs) pS) ?_
  cases f with
  | ok a => exact gk_raise1 (T := C.T) (r := r) (k := k) (W := C.W) (D := D) he rfl X1.flds (fun σ F H E' cls d r => an.er _ z hA σ F H cls d (E'.weak hz) r) σ F H E
  | er y => exact he σ F H E (an.air hz hA E) _
  | no => exact (an.no hA).elim⟩
end
section
end
end LJ
set_option Elab.async false
set_option linter.all false
set_option maxRecDepth 100000
set_option maxHeartbeats 4000000
set_option autoImplicit false
namespace R
variable {ε δ α β : Type}
theorem thn_id (x : R ε α) (k : α → R ε β) : (x.thn (fun y => y) k) = x.bind k := by cases x <;> rfl
theorem bind_ok (x : R ε α) : (x.bind fun a => R.ok a) = x := by cases x <;> rfl
end R
namespace LJ
open PySem L2 LK LKX PyProof.Rows PySem.Spec
theorem XB.cast {C : Cn} {β ρ ε Z S' : Type} {J : Jn β ρ ε Z} {G : List Slot} {slk : S' → List Slot} {st : List Stmt} {M M' : (S' → R ε ρ) → R ε ρ} (h : XB C J st G slk M) (e : ∀ k, M k = M' k) : XB C J st G slk M' := ⟨fun F0 H0 A D an k hk hA => h.h F0 H0 A D an k hk (e k ▸ hA)⟩
/-- by values, the body's answers as one function -/
theorem xb_forv {C : Cn} {β ρ ε Z S' T : Type} {J : Jn β ρ ε Z} {G : List Slot} {slk : S' → List Slot} {tg it : Expr} {rest body : List Stmt} {pos : Pos} {m : Md} {α : Type} {r : Rp α} {fx : R Er (List α)} {up : α → List Slot → List Slot} {tl : List Nat} {M : T → (S' → R ε ρ) → R ε ρ} (st : T → α → R ε T) (slT : T → List Slot) (t0 : T) (z : Z) (hz : Lw G (J.slz z)) (h0 : Lw G (slT t0))
    (po : PassesOwn (model C.X.prog C.X.w) C.X.A C.X.env C.X.xe) (hi : XI C tg it G m r fx) (hg : XG C tg m r up tl) (G' : T → α → List Slot) (hG : ∀ t x, up x (slT t) = G' t x) (hb : ∀ t x, XB C J body (G' t x) slT (fun k => (st t x).bind k)) (hr : ∀ t, XB C J rest (slT t) slk (M t))
    (hc : C.X.calm = true := by rfl) (hs : ∀ x, foldedSetIterable it C.X.env x = pure x := by intro _; rfl) :
    XB C J (.For tg it body [] pos :: rest) G slk (fun k => fx.thn (fun y => J.em y z) fun xs => (R.foldR st t0 xs).bind fun t => M t k) := LJ.xb_forv0 st slT t0 z hz h0 po hi hg G' hG hb (fun _ _ _ => rfl) hr hc hs
section
variable {C : Cn} {G : List Slot} {m m1 m2 : Md} {tg a b e : Expr} {es : List Expr} {x : Str} {p pos : Pos}
theorem xi_tup {α : Type} {r : Rp α} [Mo r] [Md.Ok m] {f : R Er (List α)} (h : XE C e G m (rTup r) f) : XI C tg e G m r f := ⟨fun F0 H0 => by
  have h := h.h F0 H0
  refine Ir.le (w := iTup C.X.K (tE C.X e)) ?_ fun _ _ _ q => tI_le (pi_tup pE) q
  cases f with
  | ok xs => exact ei_tup h
  | er y => exact fun σ F H E w Rr => h σ F H E w _
  | no => trivial⟩
theorem xqtrL {α : Type} {r : Rp α} {f : R Er (List α)} (h : XE C a G m (rLst r) f) (he : ∀ whole, isTrue a C.X.env whole = (do let v ← whole; standAt a.pos; holding [v] (truthy v)) := by intro _; rfl) : XQ C a G (f.bind fun x => .ok (!x.isEmpty)) := ⟨fun F0 H0 => by
  have h := h.h F0 H0
  cases f with
  | ok x => exact fun σ F H E Q q => tT_le (pt_truth pE he) (et_trL (te := tE C.X a) (F0 := F0) (H0 := H0) h σ F H E Q q)
  | er e => exact fun σ F H E w Q => tT_le (pt_truth pE he) (h σ F H E w _)
  | no => trivial⟩
instance : DecidableEq Dt := fun a b => if h : same a b = true then .isTrue ((same_iff a b).mp h) else .isFalse fun e => h ((same_iff a b).mpr e)
instance : Tod rDt := ⟨id, fun h => h, fun h => h⟩
end
section
end
end LJ
set_option Elab.async false
set_option linter.all false
set_option maxRecDepth 100000
set_option maxHeartbeats 4000000
set_option autoImplicit false
namespace R
variable {ε δ α β S : Type}
@[simp] theorem iff_pos' {c : Prop} [Decidable c] (h : c) (x : R ε α) : R.iff c x = x := if_pos h
theorem iff_of {c : Prop} [Decidable c] (h : c) (x : R ε α) : R.iff c x = x := if_pos h
/-- through a list, with what holds behind each item -/
theorem foldR_inv (f : S → α → R ε S) (P : Nat → S → Prop) : ∀ (xs : List α) (k : Nat) (s : S), P k s → (∀ j s x, xs[j]? = some x → P (k + j) s → ∃ s', f s x = .ok s' ∧ P (k + j + 1) s') → ∃ s', R.foldR f s xs = .ok s' ∧ P (k + xs.length) s'
  | [], k, s, h, _ => ⟨s, rfl, h⟩
  | x :: xs, k, s, h, hs => by
    obtain ⟨s1, e1, h1⟩ := hs 0 s x rfl h
    obtain ⟨s2, e2, h2⟩ := foldR_inv f P xs (k + 1) s1 h1 (fun j s y hy hp => by
      have := hs (j + 1) s y (by simpa using hy) (by rw [show k + (j + 1) = k + 1 + j by omega]; exact hp)
      rw [show k + (j + 1) + 1 = k + 1 + j + 1 by omega] at this
      exact this)
    refine ⟨s2, ?_, by rw [show k + (x :: xs).length = k + 1 + xs.length by simp; omega]; exact h2⟩
    show (f s x).bind _ = _
    rw [e1]; exact e2
theorem mapR_ok {p : α → R ε Bool} {f : α → R ε β} (p' : α → Bool) (g : α → β) : ∀ (xs : List α), (∀ x ∈ xs, p x = .ok (p' x)) → (∀ x ∈ xs, p' x = true → f x = .ok (g x)) → (R.mapR p f xs : R δ (List β)) = .ok ((xs.filter p').map g) := by
  intro xs
  induction xs with
  | nil => intro _ _; rfl
  | cons x xs ih =>
    intro hp hf
    have ih := ih (fun y hy => hp y (List.mem_cons_of_mem _ hy)) (fun y hy => hf y (List.mem_cons_of_mem _ hy))
    unfold R.mapR
    rw [hp x List.mem_cons_self]
    cases h : p' x with
    | false => simp [R.noer, h, ih]
    | true =>
      rw [hf x List.mem_cons_self h]
      simp [R.noer, h, ih]
theorem mapR_all {f : α → R ε β} (g : α → β) (xs : List α) (hf : ∀ x ∈ xs, f x = .ok (g x)) : (R.mapR (fun _ => R.ok true) f xs : R δ (List β)) = .ok (xs.map g) := by
  have := mapR_ok (δ := δ) (p := fun _ => (R.ok true : R ε Bool)) (f := f) (fun _ => true) g xs (fun _ _ => rfl) (fun x hx _ => hf x hx)
  rw [this, List.filter_eq_self.mpr (fun _ _ => rfl)]
end R
namespace LJ
open LK
theorem mulR_r {x y : Int} (h : -18446744073709551616 < y ∧ y < 18446744073709551616) : mulR x y = .ok (x * y) := R.iff_of (.inr h) _
theorem mulR_l {x y : Int} (h : -18446744073709551616 < x ∧ x < 18446744073709551616) : mulR x y = .ok (x * y) := R.iff_of (.inl h) _
theorem modR_ok {x y : Int} (h : 0 < y) : modR x y = .ok (x % y) := R.iff_of h _
theorem divR_ok {x y : Int} (h : 0 < y ∧ y < 1073741824) : divR x y = .ok (x / y) := R.iff_of h _
theorem rngR_ok {n : Int} (h : n ≤ 16777216 ∧ -16777216 ≤ n) : rngR n = .ok (rng n) := R.iff_of h _
theorem appR_ok {ε α : Type} {xs : List α} {a : α} (h : xs.length < 16777216) : (appR xs a : R ε (List α)) = .ok (xs ++ [a]) := R.iff_of h _
theorem lenR_ok {α : Type} {x : List α} (h : x.length ≤ 16777216) : lenR x = .ok x := R.iff_of h _
theorem ixR_ok {α : Type} [Inhabited α] {x : List α} {i : Int} (h : ixOk x.length i) : ixR x i = .ok (ixD x i) := R.iff_of h _
theorem ixTR_ok {x : List Nat} {i : Int} (h : ixOk x.length i) : ixTR x i = .ok [ixD x i] := R.iff_of h _
theorem joinR_ok {xs : List (List Nat)} (h : xs.flatten.length ≤ 16777216) : joinR [] xs = .ok xs.flatten := R.iff_of ⟨rfl, h⟩ _
theorem ixR_mem {α : Type} [Inhabited α] {x : List α} {i : Int} (h : 0 ≤ i ∧ i < x.length) : ∃ a, a ∈ x ∧ ixR x i = .ok a := ⟨_, ixD_mem ⟨by omega, h.2⟩, ixR_ok ⟨by omega, h.2⟩⟩
theorem inTR_1 (c : Nat) (y : List Nat) : inTR [c] y = .ok (decide (c ∈ y)) := rfl
theorem sIx_nat (n d k : Nat) : HT.sIx n d (some (k : Int)) = min k n := by
  unfold HT.sIx
  simp only
  rw [if_neg (by omega)]
  omega
theorem cutL_pre {α : Type} (x : List α) (n : Nat) : cutL x none (some (n : Int)) = x.take n := by
  unfold cutL
  rw [sIx_nat]
  show (x.drop (HT.sIx x.length 0 none)).take (min n x.length - HT.sIx x.length 0 none) = _
  have e : HT.sIx x.length 0 none = 0 := rfl
  rw [e]
  simp [List.take_eq_take_iff]
end LJ
set_option Elab.async false
set_option linter.all false
set_option maxRecDepth 100000
set_option maxHeartbeats 4000000
set_option autoImplicit false
namespace LK
open PySem L2 PyProof.Rows
section
variable {κ β : Type} [DecidableEq κ]
def getA (d : List (κ × β)) (k : κ) : Option β := (d.find? fun kv => decide (kv.1 = k)).map (·.2)
def putA (d : List (κ × β)) (k : κ) (v : β) : List (κ × β) :=
  if (d.any fun kv => decide (kv.1 = k)) = true then d.map (fun kv => if kv.1 = k then (kv.1, v) else kv) else d ++ [(k, v)]
def dropA (d : List (κ × β)) (k : κ) : List (κ × β) := d.filter fun kv => decide (kv.1 ≠ k)
def ofA (l : List (κ × β)) : List (κ × β) := l.foldl (fun d kv => putA d kv.1 kv.2) []
end
class Ke {κ : Type} (r : Rp κ) where
  key : κ → Key
  inj : ∀ {a b : κ}, key a = key b → a = b
  of : ∀ {F : Hp} {v : V} {a : κ}, r F v a → v = kV (key a)
instance : Ke rInt := ⟨fun i => .inl i, fun h => Sum.inl.inj h, fun h => h⟩
instance : Ke rTx := ⟨fun l => .inr ⟨l.toArray⟩, fun {a b} h => by
  have h := Sum.inr.inj h
  have h : a.toArray = b.toArray := by injection h
  simpa using h, fun h => h.1⟩
/-- an item -/
def PK {κ β : Type} (rk : Rp κ) [Ke rk] (rv : Rp β) (F : Hp) (kv : Key × V) (x : κ × β) : Prop := kv.1 = Ke.key rk x.1 ∧ rk F (kV kv.1) x.1 ∧ rv F kv.2 x.2
def rDk {κ β : Type} (rk : Rp κ) [Ke rk] (rv : Rp β) : Rp (List (κ × β)) := fun F v d => ∃ p kvs, v = .ref p ∧ Rd F p (.dK kvs) ∧ Paired (PK rk rv F) kvs d
/-- an own dict -/
def mD {κ β : Type} (rk : Rp κ) [Ke rk] (rv : Rp β) (d : List (κ × β)) : Mu := fun F H p S => S = [p] ∧ ∃ kvs, H p = some (.dK kvs) ∧ Paired (PK rk rv F) kvs d
section
variable {κ β : Type} {rk : Rp κ} [ke : Ke rk] {rv : Rp β}
theorem PK.mo [Mo rk] [Mo rv] {F F' : Hp} (e : Exs F F') {kv : Key × V} {x : κ × β} (h : PK rk rv F kv x) : PK rk rv F' kv x := ⟨h.1, Mo.mo e h.2.1, Mo.mo e h.2.2⟩
instance [Mo rk] [Mo rv] : Mo (rDk rk rv) := ⟨fun e ⟨p, kvs, h1, h2, h3⟩ => ⟨p, kvs, h1, e.rd h2 rfl, pmap (fun _ _ z => z.mo e) h3⟩⟩
instance : Nn (rDk rk rv) := ⟨fun ⟨_, _, h, _⟩ => by rw [h]; intro z; cases z⟩
instance [Mo rk] [Mo rv] (d : List (κ × β)) : MoM (mD rk rv d) := ⟨fun e k ⟨h0, kvs, h1, h2⟩ => ⟨h0, kvs, by rw [k _ (by rw [h0]; exact List.mem_cons_self)]; exact h1, pmap (fun _ _ z => z.mo e) h2⟩,
  fun ⟨h0, kvs, h1, _⟩ a ha => by rw [h0] at ha; rw [List.mem_singleton.mp ha, h1]; exact (fun z => nomatch z), fun ⟨h0, kvs, h1, _⟩ a ha o e => by rw [h0] at ha; rw [List.mem_singleton.mp ha, h1] at e; cases e; rfl⟩
variable [DecidableEq κ]
end
section
end
end LK
set_option Elab.async false
set_option linter.all false
set_option maxRecDepth 100000
set_option maxHeartbeats 4000000
set_option autoImplicit false
namespace LK
open PySem L2 LJ PyProof.Rows
section
variable {F0 H0 : Hp} {G : List Slot} {m m1 m2 : Md} {te tk tv : TE} {tt tt1 : TT} {wi wi1 : TI} {g g1 : TG}
theorem take_s {α : Type} {xs : List α} {i : Nat} {x : α} (hx : xs[i]? = some x) : xs.take (i + 1) = xs.take i ++ [x] := by
  rw [List.take_add_one, hx]; rfl
end
end LK
set_option Elab.async false
set_option linter.all false
set_option maxRecDepth 100000
set_option maxHeartbeats 4000000
set_option autoImplicit false
namespace R
variable {ε δ α β : Type}
theorem cond_ok {b : Bool} {x y : α} : (cond b (R.ok x) (R.ok y) : R ε α) = R.ok (cond b x y) := by cases b <;> rfl
end R
namespace LJ
open PySem L2 LK LKX PyProof.Rows PySem.Spec
section
variable {C : Cn} {G : List Slot} {m m1 m2 m3 : Md} {a b c e : Expr} {pos p apos : Pos} {x : Str} {κ β : Type} {rk : Rp κ} [ke : Ke rk] {rv : Rp β} [dk : DecidableEq κ] [mk : Mo rk] [mv : Mo rv]
instance : Fzz (mD rk rv) (rDk rk rv) := ⟨fun {F F' H p S a} ⟨hS, kvs, e, h1⟩ hp ee => ⟨p, kvs, rfl, .inl (by rw [hp p (by rw [hS]; simp), e]), pmap (fun _ _ z => z.mo ee.s) h1⟩⟩
end
section
end
section
end
end LJ
set_option Elab.async false
set_option linter.all false
set_option maxRecDepth 100000
set_option maxHeartbeats 4000000
set_option autoImplicit false
namespace LKB
open PySem L2 PyProof.Rows PySem.Spec
section
variable {X : Cx} {CX : CXT} {k : Nat} {f C g p : Addr} {fd : FuncData} {ps : List Str} {sp : Sp} {dvs : List V} {ds : List Value} {E : L2.St → XK} {x m : Str} {p0 pos apos : Pos} {e o a b : Expr} {es : List Expr} {ta tb tv : TE} {t : TA}
/-- a call somewhere below -/
theorem code_in {A : Around} {pins : List (Addr × Obj)} {σ : L2.St} {H : Hp} {s : Shared} {Q : VK} {us : List Value} {vs : List V} (F : FnOk X.prog X.w X.K X.mg X.base CX k f fd ps sp) (hr : Room k A) (e0 : Env0 X.prog X.w X.K X.mg X.base A X.stack s H) (hb : Binds X.K fd ps ds) (hd : Vals dvs ds) (hx : PassesAt CX X σ (E σ))
    (I : Inv X pins σ H s) (r : Vals vs us) (h : sp (vs ++ dvs) H Q (E σ)) : codeAny (model X.prog X.w) A (.call (.ref f) ⟨us, []⟩) (wants (EP X pins σ Q) X.xe) s := by
  have r2 : Vals (vs ++ dvs) (us ++ ds) := r.append hd
  have hl : (us ++ ds).length = ps.length := by rw [← r2.length]; exact F.len _ _ _ _ h
  refine codeAny_mono (F.run A X.stack s H ⟨us, []⟩ (us ++ ds) (vs ++ dvs) Q (E σ) hr e0 (hb s us I.kIn hl) r2 h) fun r s' hq => ?_
  cases r with
  | error e => exact hx pins H s e s' I hq
  | ok fl =>
    cases fl with
    | ret u => exact I.after hq
    | next => exact False.elim hq
    | brk => exact False.elim hq
    | cont => exact False.elim hq
end
section
open ClX
end
end LKB
set_option Elab.async false
set_option linter.all false
set_option maxRecDepth 100000
set_option maxHeartbeats 4000000
set_option autoImplicit false
namespace LK
open PySem L2 PyProof.Rows
section
end
/-- all but the addresses of S -/
def cut (S : List Addr) (H : Hp) : Hp := fun a => if a ∈ S then none else H a
theorem cut_in {S : List Addr} {H : Hp} {a : Addr} (h : a ∈ S) : cut S H a = none := if_pos h
theorem cut_out {S : List Addr} {H : Hp} {a : Addr} (h : a ∉ S) : cut S H a = H a := if_neg h
theorem cut_le {S : List Addr} {H : Hp} : Ex (cut S H) H := fun a o e => by
  by_cases h : a ∈ S
  · rw [cut_in h] at e; cases e
  · rw [cut_out h] at e; exact e
theorem le_cut {S : List Addr} {F H : Hp} (e : Ex F H) (h : ∀ a ∈ S, F a = none) : Ex F (cut S H) := fun a o q => by
  rw [cut_out fun z => by rw [h a z] at q; cases q]; exact e a o q
/-- a class as a datum -/
def rCl (C : Addr) : Rp Unit := fun _ v _ => v = .ref C
instance (C : Addr) : Fl (rCl C) := ⟨fun h => h⟩
/-- an instance with one field -/
def rI1 {α : Type} (C : Addr) (f : Str) (r : Rp α) : Rp α := fun F v a => ∃ p dx u, v = .ref p ∧ F p = some (.ins C dx [(f, u)]) ∧ r F u a
instance {α : Type} (C : Addr) (f : Str) (r : Rp α) [h : Mo r] : Mo (rI1 C f r) := ⟨fun e ⟨p, dx, u, h1, h2, h3⟩ => ⟨p, dx, u, h1, e.at_ h2 rfl, h.mo e h3⟩⟩
instance {α : Type} (C : Addr) (f : Str) (r : Rp α) : Nn (rI1 C f r) := ⟨fun ⟨_, _, _, h, _⟩ => by rw [h]; intro z; cases z⟩
/-- .. that may be told by its address -/
class Pin {δ : Type} (mu : Option Addr → δ → Mu) : Prop where
  pin : ∀ {q : Addr} {d : δ} {F H : Hp} {p : Addr} {S : List Addr}, mu (some q) d F H p S → p = q
  un : ∀ {o : Option Addr} {d : δ} {F H : Hp} {p : Addr} {S : List Addr}, mu o d F H p S → mu none d F H p S
  to : ∀ {d : δ} {F H : Hp} {p : Addr} {S : List Addr}, mu none d F H p S → mu (some p) d F H p S
  mo : ∀ (o : Option Addr) (d : δ), MoM (mu o d)
/-- an instance without fields -/
def m0 (C : Addr) (o : Option Addr) (_ : Unit) : Mu := fun F H p S => (∀ q, o = some q → p = q) ∧ ∃ dx, S = [p, dx] ∧ H p = some (.ins C dx []) ∧ H dx = some (.own p)
/-- an instance whose one field is a list of its own -/
def mB {α : Type} (C : Addr) (f : Str) (r : Rp α) (o : Option Addr) (xs : List α) : Mu := fun F H p S => (∀ q, o = some q → p = q) ∧ ∃ dx q vs, S = [p, dx, q] ∧ H p = some (.ins C dx [(f, .ref q)]) ∧ H dx = some (.own p) ∧ H q = some (.lst vs) ∧ xs.length ≤ 16777216 ∧ Paired (r F) vs xs
instance (C : Addr) (o : Option Addr) (u : Unit) : MoM (m0 C o u) := ⟨fun {F F' H H' p S} e k ⟨h0, dx, h1, h2, h3⟩ => by
    subst h1
    exact ⟨h0, dx, rfl, by rw [k p (by simp)]; exact h2, by rw [k dx (by simp)]; exact h3⟩, fun {F H p S} ⟨h0, dx, h1, h2, h3⟩ a ha => by
    subst h1
    rcases List.mem_cons.mp ha with e | ha
    · rw [e, h2]; exact fun z => nomatch z
    · rw [List.mem_singleton.mp ha, h3]; exact (fun z => nomatch z), fun {F H p S} ⟨h0, dx, h1, h2, h3⟩ a ha o eo => by
    subst h1
    rcases List.mem_cons.mp ha with e | ha
    · rw [e, h2] at eo; cases eo; rfl
    · rw [List.mem_singleton.mp ha, h3] at eo; cases eo; rfl⟩
instance {α : Type} (C : Addr) (f : Str) (r : Rp α) [mo : Mo r] (o : Option Addr) (xs : List α) : MoM (mB C f r o xs) := ⟨fun {F F' H H' p S} e k ⟨h0, dx, q, vs, h1, h2, h3, h4, h5, h6⟩ => by
    subst h1
    exact ⟨h0, dx, q, vs, rfl, by rw [k p (by simp)]; exact h2, by rw [k dx (by simp)]; exact h3, by rw [k q (by simp)]; exact h4, h5, pmap (fun _ _ z => mo.mo e z) h6⟩, fun {F H p S} ⟨h0, dx, q, vs, h1, h2, h3, h4, _⟩ a ha => by
    subst h1
    rcases List.mem_cons.mp ha with e | ha
    · rw [e, h2]; exact fun z => nomatch z
    · rcases List.mem_cons.mp ha with e | ha
      · rw [e, h3]; exact fun z => nomatch z
      · rw [List.mem_singleton.mp ha, h4]; exact (fun z => nomatch z), fun {F H p S} ⟨h0, dx, q, vs, h1, h2, h3, h4, _⟩ a ha o eo => by
    subst h1
    rcases List.mem_cons.mp ha with e | ha
    · rw [e, h2] at eo; cases eo; rfl
    · rcases List.mem_cons.mp ha with e | ha
      · rw [e, h3] at eo; cases eo; rfl
      · rw [List.mem_singleton.mp ha, h4] at eo; cases eo; rfl⟩
instance (C : Addr) : Pin (m0 C) := ⟨fun h => h.1 _ rfl, fun h => ⟨fun _ z => (nomatch z), h.2⟩, fun h => ⟨fun _ z => Option.some.inj z, h.2⟩, fun _ _ => inferInstance⟩
instance {α : Type} (C : Addr) (f : Str) (r : Rp α) [Mo r] : Pin (mB C f r) := ⟨fun h => h.1 _ rfl, fun h => ⟨fun _ z => (nomatch z), h.2⟩, fun h => ⟨fun _ z => Option.some.inj z, h.2⟩, fun _ _ => inferInstance⟩
instance {α : Type} (C : Addr) (f : Str) (r : Rp α) [Mo r] (o : Option Addr) : LJ.Fzz (mB C f r o) (rI1 C f (rLst r)) := ⟨fun {F F' H p S a} ⟨_, dx, q, vs, h1, h2, h3, h4, h5, h6⟩ hp ee => by
  subst h1
  exact ⟨p, dx, _, rfl, by rw [hp p (by simp)]; exact h2, q, vs, rfl, by rw [hp q (by simp)]; exact h4, h5, pmap (fun _ _ z => mox ee z) h6⟩⟩
/-- a list or a tuple, new or of the text -/
def rSq {α : Type} (K : PySem.W.Frag) (r : Rp α) : Rp (List α) := fun F v xs => ∃ p vs, v = .ref p ∧ (SqL K F p vs ∨ SqT K F p vs) ∧ xs.length ≤ 16777216 ∧ Paired (r F) vs xs
end LK
namespace LJ
open PySem L2 LK LKX LKB PyProof.Rows PySem.Spec
section
variable {C : Cn} {G : List LK.Slot} {m : Md} {a e : Expr} {pos p1 : Pos} {x f : Str}
/-- an own thing, read -/
theorem xvm {α : Type} {mu : α → Mu} {r : Rp α} [fz : Fzz mu r] {d : α} {iM : MoM (mu d)} (i : Nat) (h : G[i]? = some (.ow (mu d) iM) := by rfl) (hN : C.X.N[i]? = some x := by rfl) (hv : Vis C.X.env.scope x := by first | exact Or.inl rfl | exact Or.inr (Or.inl rfl) | exact Or.inr (Or.inr rfl)) (hd : (x == ("__debug__" : Str)) = false := by decide)
    (hcd : (x == ("__classdict__" : Str)) = false := by decide) : XE C (.Name x pos) G .bo r (.ok d) := ⟨fun F0 H0 σ F H E Q q => tE_le (pe_var hN hv hd hcd) (by
  obtain ⟨p, S, hx, hS, hm⟩ := E.ow_at h
  exact ⟨_, hx, q _ F H (Gr.refl E.gr.fh) (fz.fz hm (fun _ _ => rfl) E.gr.fh)⟩)⟩
end
section
end
end LJ
set_option Elab.async false
set_option linter.all false
set_option maxRecDepth 100000
set_option maxHeartbeats 4000000
set_option autoImplicit false
namespace LJ
open PySem L2 LK LKX LKB PyProof.Rows PySem.Spec
/-- the promise: su: what the first argument is; sv, se: behind the call, behind an error -/
def spM {γ α δ ζ : Type} (T : XT) (su : Option Addr → γ → Mu) (P : Pt α) (f : γ → α → R (Er × ζ) δ) (sv : Option Addr → δ → LK.Slot) (se : Option Addr → ζ → LK.Slot) : Sp := fun vs H Q E =>
  ∃ F p S g a ws, vs = .ref p :: ws ∧ Ex F H ∧ su none g F H p S ∧ (∀ b ∈ S, F b = none) ∧ P.ra F (cut S H) (cut S H) ws a ∧ f g a ≠ .no ∧
  (∀ d, f g a = .ok d → ∀ x F' H', EnvOk F (cut S H) [sv (some p) d] [x] F' H' → Q .non H') ∧
  (∀ er z, f g a = .er (er, z) → ∀ cls dd x F' H', EnvOk F (cut S H) [se (some p) z] [x] F' H' → rEr T F' cls dd er → E cls dd H')
theorem spM_len {γ α δ ζ : Type} {T : XT} {su : Option Addr → γ → Mu} {P : Pt α} {f : γ → α → R (Er × ζ) δ} {sv : Option Addr → δ → LK.Slot} {se : Option Addr → ζ → LK.Slot} {vs : List V} {H : Hp} {Q : VK} {E : XK} (h : spM T su P f sv se vs H Q E) : vs.length = P.count + 1 := by
  obtain ⟨F, p, S, g, a, ws, e, _, _, _, h, _⟩ := h
  rw [e, List.length_cons, P.length h]
abbrev jnM {δ ζ : Type} (n : Nat) (se : ζ → LK.Slot) : Jn Empty δ (Er × ζ) ζ := ⟨fun b => b.elim, fun b _ => b.elim, fun z => se z :: List.replicate n .no, fun e z => (e, z)⟩
theorem entryM {α : Type} {T : Pt α} {F H : Hp} {ws : List V} {a : α} {N : List Str} {x : Str} {M : Mu} {im : MoM M} {p : Addr} {S : List Addr} (e : Ex F H) (hm : M F H p S) (hS : ∀ b ∈ S, F b = none) (h : T.ra F (cut S H) (cut S H) ws a) (c : Nat) (hc : N.length = T.count + c) :
    EnvOk F (cut S H) (.ow M im :: (T.slots a ++ List.replicate c .no)) (L2.start (x :: N) (.ref p :: ws)) F H := by
  have hl : ws.length = T.count := T.length h
  have E := entry (le_cut e hS) h c hc
  have g : Gr F (cut S H) F H := ⟨Ex.refl F, e, cut_le, fun a o h1 h2 => by rw [h1] at h2; cases h2⟩
  have E2 := E.pushO (im := im) (S := S) g (fun a ha => ⟨cut_in ha, hS a ha⟩) hm
  have es : L2.start (x :: N) (.ref p :: ws) = some (.ref p) :: L2.start N ws := by
    unfold L2.start
    simp
  rw [es]; exact E2
section
variable {P : Program} {w : World} {K : PySem.W.Frag} {mg : Str → Option Value} {base : Heap}
/-- what ok_M asks of the body's end -/
theorem ok_M {γ δ ζ α S' : Type} {X : XT} {su : Option Addr → γ → Mu} [pn : Pin su] {T : Pt α} {f : γ → α → R (Er × ζ) δ} {sv : Option Addr → δ → LK.Slot} {se : Option Addr → ζ → LK.Slot} {x qual : Str} {st : Stmt} {fa : Addr} {fd : FuncData} {y : Str} {N ps : List Str} {k : Nat} (c : Nat) (Fn : Fun K x qual st fa fd) (S : FnScope (y :: N) ps (defScope st)) (hc : N.length = T.count + c) (hps : ps.length = T.count + 1)
    (kend : S' → R (Er × ζ) δ) (hend2 : ∀ s e, kend s ≠ .er e)
    (hbody : ∀ (cdv : Value) (A : Around) (outer : List Env) (s : Shared) (H : Hp) (E : XK) (hr : Room k (A.deeper (envOfC qual (defScope st) s.heap.objs.size fa cdv))) (p : Addr) (g : γ) (a : α),
      ∃ (slk : S' → List LK.Slot) (M : (S' → R (Er × ζ) δ) → R (Er × ζ) δ), XB (cnD P w K mg base (y :: N) S.nd qual (defScope st) fa cdv A outer s H E X) (jnM N.length (se (some p))) (defBody st) (.ow (su (some p) g) (pn.mo _ _) :: (T.slots a ++ List.replicate c .no)) slk M ∧ M kend = f g a ∧ (∀ s d, kend s = .ok d → Lw (slk s) (sv (some p) d :: List.replicate N.length .no))) :
    FnOk P w K mg base (L2.CX P w) (k + 1) fa fd ps (spM X su T f sv se) := by
  refine Fn.okX S (fun vs H Q E h => by rw [hps]; exact spM_len h) (fun cdv A outer s H vs Q E hr h => ?_)
  obtain ⟨F, p, Sf, g, a, ws, ev, e, hm, hS, ha, hno, q1, q2⟩ := h
  subst ev
  obtain ⟨slk, M, hB, hM, hsl⟩ := hbody cdv A outer s H E hr p g a
  have hl : ws.length = T.count := T.length ha
  have unc : ∀ {s0 : LK.Slot} {n : Nat} {σ : L2.St} {F' H' : Hp}, EnvOk F (cut Sf H) (s0 :: List.replicate n .no) σ F' H' → ∃ x, EnvOk F (cut Sf H) [s0] [x] F' H' := fun {s0 n σ F' H'} EE => by
    cases σ with
    | nil => have := EE.len; simp at this
    | cons x σ => exact ⟨x, EE.head⟩
  refine ⟨_, pS, hB.h F (cut Sf H) (fun r => r = f g a) _ ⟨fun h => hno h.symm, fun b => b.elim, fun er z h σ F' H' cls d EE r => ?_⟩ kend (fun s' hs σ F' H' EE => ?_) hM _ F H (entryM (im := pn.mo _ _) e (pn.to hm) hS ha c hc)⟩
  · obtain ⟨x, E1⟩ := unc EE
    exact q2 er z h.symm cls d x F' H' E1 r
  · cases hk : kend s' with
    | ok d =>
      obtain ⟨x, E1⟩ := unc (EE.weak (hsl s' d hk))
      exact q1 d (by rw [← hs, hk]) x F' H' E1
    | er y => exact absurd hk (hend2 s' y)
    | no => rw [hk] at hs; exact absurd hs.symm hno
end
section
variable {C : Cn} {G : List LK.Slot} {m : Md} {e : Expr} {es : List Expr} {pos p0 : Pos} {x : Str}
theorem spM_make {α δ ζ : Type} {T : XT} {C0 : Addr} {P : Pt α} {fn : Unit → α → R (Er × ζ) δ} {mv : Option Addr → δ → Mu} [pn : Pin mv] {se : Option Addr → ζ → LK.Slot} {F H : Hp} {ws : List V} {a : α} {Q : VK} {E : XK} (ef : Ex F H) (ha : P.ra F H H ws a) (hno : fn () a ≠ .no)
    (q1 : ∀ d, fn () a = .ok d → ∀ p F' H', EnvOk F H [.ow (mv none d) (pn.mo _ _)] [some (.ref p)] F' H' → Q (.ref p) H') (q2 : ∀ er z, fn () a = .er (er, z) → ErK T F H E er) :
    ∀ x dx, H x = none → H dx = none → dx ≠ x → spM T (m0 C0) P fn (fun o d => .ow (mv o d) (pn.mo o d)) se (.ref x :: ws) (upd (upd H dx (.own x)) x (.ins C0 dx [])) (fun v H2 => v = .non ∧ Q (.ref x) H2) E := fun x dx hx hdx ne => by
  have hc : cut [x, dx] (upd (upd H dx (.own x)) x (.ins C0 dx [])) = H := by
    funext b
    by_cases h1 : b = x
    · subst h1; rw [cut_in (by simp), hx]
    · by_cases h2 : b = dx
      · subst h2; rw [cut_in (by simp), hdx]
      · rw [cut_out (by simp [h1, h2]), upd_ne h1, upd_ne h2]
  refine ⟨F, x, [x, dx], (), a, ws, rfl, (ef.trans (Ex.new hdx)).trans (Ex.new (by rw [upd_ne (Ne.symm ne)]; exact hx)), ⟨fun _ z => (nomatch z), dx, rfl, upd_same, by rw [upd_ne ne, upd_same]⟩, fun b hb => ?_, by rw [hc]; exact ha, hno, fun d hd y F' H' EE => ?_, fun er z he cls dd y F' H' EE r => ?_⟩
  · rcases List.mem_cons.mp hb with h | h
    · rw [h]; exact ef.back hx
    · rw [List.mem_singleton.mp h]; exact ef.back hdx
  · rw [hc] at EE
    refine ⟨rfl, q1 d hd x F' H' ?_⟩
    obtain ⟨fp, E1⟩ := EE
    obtain ⟨z, hz, q, hq, h1, h2⟩ := E1.at_ 0 _ rfl
    have eq := pn.pin h2
    subst eq
    exact env1o (S := fp 0) ef E1.gr (fun b hb => ⟨(h1 b hb).2, (h1 b hb).1⟩) (pn.un h2)
  · rw [hc] at EE
    exact q2 er z he cls dd F' H' EE.gr r
def mkR {ζ δ : Type} : R (Er × ζ) δ → R Er δ
  | .ok d => .ok d
  | .er e => .er e.1
  | .no => .no
end
section
end
end LJ
set_option Elab.async false
set_option linter.all false
set_option maxRecDepth 100000
set_option maxHeartbeats 4000000
set_option autoImplicit false
namespace LKB
open PySem L2 PyProof.Rows PySem.Spec
end LKB
namespace LJ
open PySem L2 LK LKX LKB ClX PyProof.Rows PySem.Spec
section
variable {C : Cn} {G : List LK.Slot} {m m1 m2 : Md} {a b e o : Expr} {es : List Expr} {pos apos p : Pos} {x mn : Str}
/-- what spR asks, at a call -/
theorem spR_at {α β : Type} {T : XT} {P : Pt α} {fn : α → R Er β} {rs : β → LK.Slot} {W : Value → Option Addr → Hp → Prop} {vs : List V} {a : α} {F0 H0 F H : Hp} {Q : VK} (g0 : Gr F0 H0 F H) (ha : P.ra F H H vs a) (hno : fn a ≠ .no)
    (q1 : ∀ b, fn a = .ok b → ∀ v F' H', EnvOk F H [rs b] [some v] F' H' → Q v H') (q2 : ∀ er, fn a = .er er → ∀ cls d F' H', Gr F H F' H' → rEr T F' cls d er → W cls d H') : spR T P fn rs vs H Q (fun cls d H => W cls d H) :=
  ⟨F, a, g0.fh, ha, hno, q1, fun er he cls d F' H' g r => q2 er he cls d F' H' g r⟩
end
section
end
end LJ
set_option Elab.async false
set_option linter.all false
set_option maxRecDepth 100000
set_option maxHeartbeats 4000000
set_option autoImplicit false
namespace LK
open PySem L2 PyProof.Rows
theorem Rd.exs {F F' : Hp} {p : Addr} {u : HO} (e : Exs F F') (hd : isD u = false) (hf : core u = u) (h : Rd F p u) : Rd F' p u := by
  rcases h with h | ⟨o, h⟩
  · exact .inl (e.at_ h (by rw [hf]; exact hd))
  · exact .inr ⟨o, e.at_ h hd⟩
instance {α : Type} (K : PySem.W.Frag) (r : Rp α) [h : Mo r] : Mo (rSq K r) := ⟨fun e ⟨p, vs, h1, h2, h3, h4⟩ => ⟨p, vs, h1, h2.elim (fun z => .inl (z.elim (fun z => .inl (Rd.exs e rfl rfl z)) .inr)) (fun z => .inr (z.elim (fun z => .inl (Rd.exs e rfl rfl z)) .inr)), h3, pmap (fun _ _ z => h.mo e z) h4⟩⟩
section
end
end LK
namespace LJ
open PySem L2 LK LKX LKB ClX PyProof.Rows PySem.Spec
section
end
section
end
/-- its __init__; dvs: the defaults that fill up -/
structure CalI (K : PySem.W.Frag) (mg : Str → Option Value) (C f : Addr) (x : Str) (fd : FuncData) (ps : List Str) (dvs : List V) : Prop where
  mm : Mk K C f
  gm : mg x = some (.ref C)
  b0 : Binds K fd ps []
  bd : ∃ ds, Vals dvs ds ∧ Binds K fd ps ds
section
end
section
end
end LJ
set_option Elab.async false
set_option linter.all false
set_option maxRecDepth 100000
set_option maxHeartbeats 4000000
set_option autoImplicit false
namespace LK
open PySem L2 PyProof.Rows
instance {α β γ : Type} (r : Rp α) (s : Rp β) (t : Rp γ) [h : Tod r] [g : Tod s] [k : Tod t] : Tod (rP3 r s t) := ⟨fun x => .tup [h.d x.1, g.d x.2.1, k.d x.2.2], fun ⟨p, u, w, z, h1, h2, h3, h4, h5⟩ => by unfold rDt; exact ⟨p, [u, w, z], h1, h2, by simp, rDts_p.mpr (.cons (h.to h3) (.cons (g.to h4) (.cons (k.to h5) .nil)))⟩, fun {a b} e => by
  injection e with e
  injection e with e1 e2
  injection e2 with e2 e3
  injection e3 with e3 _
  exact Prod.ext (h.inj e1) (Prod.ext (g.inj e2) (k.inj e3))⟩
end LK
namespace LJ
open PySem L2 LK LKX LKB ClX PyProof.Rows PySem.Spec
section
end
end LJ
set_option Elab.async false
set_option linter.all false
set_option maxRecDepth 100000
set_option maxHeartbeats 4000000
set_option autoImplicit false
namespace LJ
open PySem L2 LK LKX LKB PyProof.Rows PySem.Spec
def Mr (C : Cn) (F0 H0 : Hp) {S ζ : Type} (t : TE) (G : List LK.Slot) (sv : S → LK.Slot) (sl : S → List LK.Slot) (sle : ζ → List LK.Slot) : R (Er × ζ) S → Prop
  | .ok s => ∀ σ F H, EnvOk F0 H0 G σ F H → ∀ Q : VK, (∀ v F' H', Ex F F' → EnvOk F0 H0 (sv s :: sl s) (some v :: σ) F' H' → Q v H') → t σ H Q
  | .er ez => ∀ σ F H, EnvOk F0 H0 G σ F H → (∀ F' H' cls d, EnvOk F0 H0 (sle ez.2) σ F' H' → rEr C.T F' cls d ez.1 → C.W cls d σ H') → ∀ Q : VK, t σ H Q
  | .no => True
/-- .. a test -/
def Mt (C : Cn) (F0 H0 : Hp) {S ζ : Type} (t : TT) (G : List LK.Slot) (tb : S → Bool) (sl : S → List LK.Slot) (sle : ζ → List LK.Slot) : R (Er × ζ) S → Prop
  | .ok s => ∀ σ F H, EnvOk F0 H0 G σ F H → ∀ Q : Bool → Hp → Prop, (∀ F' H', Ex F F' → EnvOk F0 H0 (sl s) σ F' H' → Q (tb s) H') → t σ H Q
  | .er ez => ∀ σ F H, EnvOk F0 H0 G σ F H → (∀ F' H' cls d, EnvOk F0 H0 (sle ez.2) σ F' H' → rEr C.T F' cls d ez.1 → C.W cls d σ H') → ∀ Q : Bool → Hp → Prop, t σ H Q
  | .no => True
section
variable {C : Cn} {S ζ : Type} {F0 H0 : Hp} {G : List LK.Slot} {sv : S → LK.Slot} {tb : S → Bool} {sl : S → List LK.Slot} {sle : ζ → List LK.Slot}
theorem Mr.le {f : R (Er × ζ) S} {t u : TE} (h : Mr C F0 H0 t G sv sl sle f) (le : ∀ σ H Q, t σ H Q → u σ H Q) : Mr C F0 H0 u G sv sl sle f := by
  cases f with
  | ok a => exact fun σ F H E Q q => le _ _ _ (h σ F H E Q q)
  | er e => exact fun σ F H E w Q => le _ _ _ (h σ F H E w Q)
  | no => trivial
theorem Mt.le {f : R (Er × ζ) S} {t u : TT} (h : Mt C F0 H0 t G tb sl sle f) (le : ∀ σ H Q, t σ H Q → u σ H Q) : Mt C F0 H0 u G tb sl sle f := by
  cases f with
  | ok a => exact fun σ F H E Q q => le _ _ _ (h σ F H E Q q)
  | er e => exact fun σ F H E w Q => le _ _ _ (h σ F H E w Q)
  | no => trivial
end
section
end
section
end
end LJ
set_option Elab.async false
set_option linter.all false
set_option maxRecDepth 100000
set_option maxHeartbeats 4000000
set_option autoImplicit false
namespace LK
open PySem L2 PyProof.Rows
/-- an own thing at a known address -/
def mP {α : Type} (mk : α → Mu) (o : Option Addr) (a : α) : Mu := fun F H p S => (∀ q, o = some q → p = q) ∧ mk a F H p S
instance {α : Type} (mk : α → Mu) [im : ∀ a, MoM (mk a)] (o : Option Addr) (a : α) : MoM (mP mk o a) := ⟨fun e k h => ⟨h.1, (im a).mo e k h.2⟩, fun h => (im a).own h.2, fun h => (im a).ty h.2⟩
instance {α : Type} (mk : α → Mu) [im : ∀ a, MoM (mk a)] : Pin (mP mk) := ⟨fun h => h.1 _ rfl, fun h => ⟨fun _ z => (nomatch z), h.2⟩, fun h => ⟨fun _ z => Option.some.inj z, h.2⟩, fun _ _ => inferInstance⟩
instance {α : Type} (mk : α → Mu) (r : Rp α) [fz : LJ.Fzz mk r] (o : Option Addr) : LJ.Fzz (mP mk o) r := ⟨fun h => fz.fz h.2⟩
/-- an own list, at a known address or not -/
def mPl {α : Type} (r : Rp α) : Option Addr → List α → Mu
  | none, xs => mL r xs
  | some q, xs => mP (mL r) (some q) xs
instance {α : Type} (r : Rp α) [Mo r] (o : Option Addr) (xs : List α) : MoM (mPl r o xs) := by
  cases o
  · show MoM (mL r xs); infer_instance
  · show MoM (mP (mL r) _ xs); infer_instance
instance {α : Type} (r : Rp α) [Mo r] : Pin (mPl r) := ⟨fun h => h.1 _ rfl, fun {o d F H p S} h => by
    cases o
    · exact h
    · exact h.2, fun h => ⟨fun _ z => Option.some.inj z, h⟩, fun _ _ => inferInstance⟩
/-- what is an own list, perhaps at a known address -/
class OwnL {α : Type} (mk : List α → Mu) (r : outParam (Rp α)) : Prop where
  c : ∃ c : Addr → Prop, ∀ xs F H p S, mk xs F H p S ↔ (c p ∧ mL r xs F H p S)
instance {α : Type} (r : Rp α) : OwnL (mL r) r := ⟨fun _ => True, fun _ _ _ _ _ => ⟨fun h => ⟨trivial, h⟩, fun h => h.2⟩⟩
instance {α : Type} (r : Rp α) (o : Option Addr) : OwnL (mP (mL r) o) r := ⟨fun p => ∀ q, o = some q → p = q, fun _ _ _ _ _ => Iff.rfl⟩
section
end
end LK
namespace LJ
open PySem L2 LK LKX LKB PyProof.Rows PySem.Spec
section
end
section
end
end LJ
set_option Elab.async false
set_option linter.all false
set_option maxRecDepth 100000
set_option maxHeartbeats 4000000
set_option autoImplicit false
namespace LK
open PySem L2 PyProof.Rows
/-- the own arguments, ahead of the others -/
inductive Ow : Type → Type 1
  | nil : Ow Unit
  | cons {δ γ : Type} (mu : Option Addr → δ → Mu) (pn : Pin mu) (r : Ow γ) : Ow (δ × γ)
def Ow.sl {γ : Type} : Ow γ → List (Option Addr) → γ → List Slot
  | .nil, _, _ => []
  | .cons mu pn r, os, g => .ow (mu (os.headD none) g.1) (pn.mo _ _) :: r.sl os.tail g.2
def Ow.n {γ : Type} : Ow γ → Nat
  | .nil => 0
  | .cons _ _ r => r.n + 1
theorem Ow.len {γ : Type} : ∀ (w : Ow γ) (os : List (Option Addr)) (g : γ), (w.sl os g).length = w.n
  | .nil, _, _ => rfl
  | .cons _ _ r, os, g => by unfold Ow.sl Ow.n; rw [List.length_cons, r.len]
/-- what stands at a place: an own thing, told with any address -/
theorem Ow.at_ {γ : Type} : ∀ (w : Ow γ) (g : γ) (j : Nat), j < w.n → ∃ (δ : Type) (mu : Option Addr → δ → Mu) (pn : Pin mu) (d : δ), ∀ os : List (Option Addr), (w.sl os g)[j]? = some (.ow (mu (os[j]?.getD none) d) (pn.mo _ _))
  | .nil, _, j, h => by exact absurd h (by unfold Ow.n; omega)
  | .cons mu pn r, g, 0, _ => ⟨_, mu, pn, g.1, fun os => by
      unfold Ow.sl
      cases os <;> rfl⟩
  | .cons mu pn r, g, j + 1, h => by
    obtain ⟨δ, mv, pv, d, k⟩ := r.at_ g.2 j (by unfold Ow.n at h; omega)
    refine ⟨δ, mv, pv, d, fun os => ?_⟩
    have := k os.tail
    unfold Ow.sl
    rw [List.getElem?_cons_succ, this]
    cases os <;> simp
/-- the slots at these places -/
def AtAll (G : List Slot) : List Nat → List Slot → Prop
  | [], [] => True
  | i :: is, s :: ss => G[i]? = some s ∧ AtAll G is ss
  | _, _ => False
theorem AtAll.get {G : List Slot} : ∀ {is : List Nat} {ss : List Slot} {j i : Nat} {s : Slot}, AtAll G is ss → is[j]? = some i → ss[j]? = some s → G[i]? = some s
  | [], [], j, _, _, _, h, _ => by simp at h
  | i :: is, s :: ss, 0, _, _, h, h1, h2 => by simp at h1 h2; subst h1 h2; exact h.1
  | i :: is, s :: ss, j + 1, _, _, h, h1, h2 => AtAll.get h.2 (by simpa using h1) (by simpa using h2)
  | [], _ :: _, _, _, _, h, _, _ => h.elim
  | _ :: _, [], _, _, _, h, _, _ => h.elim
theorem AtAll.len {G : List Slot} : ∀ {is : List Nat} {ss : List Slot}, AtAll G is ss → is.length = ss.length
  | [], [], _ => rfl
  | i :: is, s :: ss, h => by rw [List.length_cons, List.length_cons, AtAll.len h.2]
  | [], _ :: _, h => h.elim
  | _ :: _, [], h => h.elim
section
end
end LK
set_option Elab.async false
set_option linter.all false
set_option maxRecDepth 100000
set_option maxHeartbeats 4000000
set_option autoImplicit false
namespace LJ
open PySem L2 LK LKX LKB PyProof.Rows PySem.Spec
theorem Lw.of {G G' : List LK.Slot} (h : Lw G G') : Lw G G' := h
section
end
def Ur (C : Cn) (F0 H0 : Hp) (t : TA) (G : List LK.Slot) (is : List Nat) {α : Type} (P : Pt α) : R Er α → Prop
  | .ok a => ∀ σ F H, EnvOk F0 H0 G σ F H → ∀ Q : List V → Hp → Prop, (∀ (ps : List Addr) (ws : List V) (F' H' : Hp), Gr F H F' H' → is.map (fun i => σ[i]?) = ps.map (fun p => some (some (V.ref p))) → (∀ F2 Hc, Ex F' F2 → Ex F2 Hc → Ex H0 Hc → P.ra F2 Hc Hc ws a) → Q (ps.map V.ref ++ ws) H') → t σ H Q
  | .er e => ∀ σ F H, EnvOk F0 H0 G σ F H → (∀ F' H' cls d, Gr F H F' H' → rEr C.T F' cls d e → C.W cls d σ H') → ∀ Q : List V → Hp → Prop, t σ H Q
  | .no => True
section
variable {C : Cn} {G : List LK.Slot} {m : Md} {e : Expr} {es : List Expr} {pos p0 p1 apos : Pos} {x : Str} {is : List Nat}
theorem Ur.le {α : Type} {P : Pt α} {g : R Er α} {F0 H0 : Hp} {t u : TA} (h : Ur C F0 H0 t G is P g) (le : ∀ σ H Q, t σ H Q → u σ H Q) : Ur C F0 H0 u G is P g := by
  cases g with
  | ok a => exact fun σ F H E Q q => le _ _ _ (h σ F H E Q q)
  | er e => exact fun σ F H E w Q => le _ _ _ (h σ F H E w Q)
  | no => trivial
end
end LJ
set_option Elab.async false
set_option linter.all false
set_option maxRecDepth 100000
set_option maxHeartbeats 4000000
set_option autoImplicit false
namespace LJ
open PySem L2 LK LKX LKB PyProof.Rows PySem.Spec
section
end
section
end
section
variable {C : Cn} {G : List LK.Slot} {m m1 m2 : Md} {o a : Expr} {pos apos p p1 p2 p3 : Pos}
theorem ptx {F : Hp} : ∀ {vs : List V} {xs : List (List Nat)}, Paired (rTx F) vs xs → vs = (xs.map fun y => (⟨y.toArray⟩ : Str)).map V.str
  | [], [], _ => rfl
  | v :: vs, x :: xs, .cons h t => by rw [List.map_cons, List.map_cons, ← ptx t, h.1]
end
section
end
end LJ
set_option Elab.async false
set_option linter.all false
set_option maxRecDepth 100000
set_option maxHeartbeats 4000000
set_option autoImplicit false
namespace R
variable {ε δ α β : Type}
@[simp] theorem ok_noer (a : α) : (R.ok a : R ε α).noer = (R.ok a : R δ α) := rfl
theorem bind_thn {γ ζ : Type} (x : R ε α) (k : α → R ε β) (g : ε → ζ) (l : β → R ζ γ) : (x.bind k).thn g l = x.thn g fun a => (k a).thn g l := by cases x <;> rfl
theorem thn_thn {γ ζ : Type} (x : R ε α) (g : ε → δ) (k : α → R δ β) (h : δ → ζ) (l : β → R ζ γ) : (x.thn g k).thn h l = x.thn (fun e => h (g e)) fun a => (k a).thn h l := by cases x <;> rfl
end R
namespace LJ
open PySem L2 LK LKX LKB PyProof.Rows PySem.Spec
/-- membership, by the equality that the rules name -/
abbrev memD {α : Type} [DecidableEq α] (x : α) (y : List α) : Bool := decide (x ∈ y)
section
end
section
end
end LJ
set_option Elab.async false
set_option linter.all false
set_option maxRecDepth 100000
set_option maxHeartbeats 4000000
set_option autoImplicit false
namespace LJ
open PySem L2 LK LKX LKB PyProof.Rows PySem.Spec
section
end
section
end
end LJ
set_option Elab.async false
set_option linter.all false
set_option maxRecDepth 100000
set_option maxHeartbeats 4000000
set_option autoImplicit false
namespace LK
open PySem L2 PyProof.Rows PySem.W
/-- data that are compared by < -/
class Lo {α : Type} (r : Rp α) [A : Da r] where
  lt : α → α → Bool
  alike : ∀ a b, PySem.W.alike (A.d a) (A.d b) = true
  nn : ∀ a, A.d a ≠ .none
  lt_eq : ∀ a b, dataLt (A.d a) (A.d b) = lt a b
instance : Lo rInt where
  lt a b := decide (a < b)
  alike a b := by show PySem.W.alike (.int a) (.int b) = true; simp only [PySem.W.alike]
  nn a := fun e => by cases e
  lt_eq a b := dataLt_int a b
instance : Lo rTx where
  lt a b := decide (a < b)
  alike a b := by show PySem.W.alike (.str _) (.str _) = true; simp only [PySem.W.alike]
  nn a := fun e => by cases e
  lt_eq a b := dataLt_str _ _
section
variable {α β : Type} [DecidableEq α] [DecidableEq β] {r : Rp α} {s : Rp β} [A : Da r] [B : Da s] [L : Lo r] [M : Lo s]
/-- the first difference decides, else the shorter is the less -/
def lsLt {α : Type} [DecidableEq α] (lt : α → α → Bool) : List α → List α → Bool
  | [], [] => false
  | [], _ :: _ => true
  | _ :: _, [] => false
  | x :: xs, y :: ys => if x = y then lsLt lt xs ys else lt x y
theorem alikeAll_lo : ∀ xs ys : List α, alikeAll (xs.map A.d) (ys.map A.d) = true
  | [], _ => by rw [List.map_nil, alikeAll]
  | _ :: _, [] => by rw [List.map_nil, List.map_cons, alikeAll]
  | x :: xs, y :: ys => by
    rw [List.map_cons, List.map_cons, alikeAll, L.alike x y, alikeAll_lo xs ys]
    rfl
theorem lexAll_lo : ∀ xs ys : List α, PyProof.Rows.lexLt itemOrd (keyToksAll (xs.map A.d)) (keyToksAll (ys.map A.d)) = lsLt L.lt xs ys
  | [], [] => lex_irrefl _
  | [], y :: ys => by
    rw [List.map_nil, List.map_cons, toks_all_cons]
    simp only [keyToksAll]
    rw [lex_diff (O := itemOrd) (by simp)]
    rfl
  | x :: xs, [] => by
    rw [List.map_nil, List.map_cons, toks_all_cons]
    simp only [keyToksAll]
    rw [lex_diff (O := itemOrd) (by simp)]
    rfl
  | x :: xs, y :: ys => by
    rw [List.map_cons, List.map_cons, lsLt]
    by_cases h : x = y
    · rw [if_pos h, dataLt_all_yes (L.alike x y) ((A.eqv x y).mpr h), lexAll_lo xs ys]
    · rw [if_neg h, dataLt_all_no (L.alike x y) (by rw [← Bool.not_eq_true, A.eqv]; exact h)]
      exact L.lt_eq x y
instance : Lo (rLst r) where
  lt := lsLt L.lt
  alike xs ys := by show PySem.W.alike (.list _) (.list _) = true; simp only [PySem.W.alike]; exact alikeAll_lo xs ys
  nn a := fun e => by cases e
  lt_eq xs ys := (dataLt_list _ _).trans (lexAll_lo xs ys)
instance : Lo (rTup r) where
  lt := lsLt L.lt
  alike xs ys := by show PySem.W.alike (.tuple _) (.tuple _) = true; simp only [PySem.W.alike]; exact alikeAll_lo xs ys
  nn a := fun e => by cases e
  lt_eq xs ys := (dataLt_tuple _ _).trans (lexAll_lo xs ys)
def prLt (lt : α → α → Bool) (lt' : β → β → Bool) (p q : α × β) : Bool := if p.1 = q.1 then lt' p.2 q.2 else lt p.1 q.1
instance : Lo (rPr r s) where
  lt := prLt L.lt M.lt
  alike p q := by
    show PySem.W.alike (.tuple [_, _]) (.tuple [_, _]) = true
    simp only [PySem.W.alike, alikeAll, L.alike, M.alike, Bool.and_self]
  nn a := fun e => by cases e
  lt_eq p q := by
    refine (dataLt_tuple _ _).trans ?_
    unfold prLt
    by_cases h : p.1 = q.1
    · rw [if_pos h, dataLt_all_yes (L.alike p.1 q.1) ((A.eqv _ _).mpr h)]
      by_cases h2 : p.2 = q.2
      · rw [dataLt_all_yes (M.alike p.2 q.2) ((B.eqv _ _).mpr h2), lex_irrefl, h2]
        exact ((dataLt_self _).symm.trans (M.lt_eq q.2 q.2))
      · rw [dataLt_all_no (M.alike p.2 q.2) (by rw [← Bool.not_eq_true, B.eqv]; exact h2)]
        exact M.lt_eq p.2 q.2
    · rw [if_neg h, dataLt_all_no (L.alike p.1 q.1) (by rw [← Bool.not_eq_true, A.eqv]; exact h)]
      exact L.lt_eq p.1 q.1
end
end LK
namespace LJ
open PySem L2 LK LKX LKB PyProof.Rows PySem.Spec
section
variable {C : Cn} {G : List LK.Slot} {m m1 m2 : Md} {a b e : Expr} {pos p p2 : Pos} {y : Str}
/-- isinstance(e, T), e of this type -/
theorem xisi {α : Type} {r : Rp α} [Tod r] {f : R Er α} {T : String} (ha : XE C a G m1 r f) (gD : C.X.mg y = none) (hb : C.X.mg "isinstance" = none) (ht : ∀ a, (Tod.d r a).ty = T) (hk : PySem.W.kitOne C.X.K (.type T) (.type T) = some true := by rfl) (hbt : bootBuiltins y = some (.type T) := by rfl)
    (hg : Gl C.X y := by rfl) (hdy : (y == ("__debug__" : Str)) = false := by decide) (hny : y ≠ "__name__" := by decide) (hgi : Gl C.X "isinstance" := by rfl) (h1 : starEach [a, .Name y p2] C.X.env = (false, eval a C.X.env) :: starEach [.Name y p2] C.X.env := by exact star_cons rfl) (h2 : starEach [.Name y p2] C.X.env = (false, eval (.Name y p2) C.X.env) :: starEach [] C.X.env := by exact star_cons rfl) (hpl : (backTo pos (starEach [.Name y p2] C.X.env)).any (·.1) = false := by rfl) :
    XE C (.Call (.Name "isinstance" p) [a, .Name y p2] [] pos) G .sh rBl (f.bind fun _ => .ok true) := ⟨fun F0 H0 => by
  have ha := ha.h F0 H0
  refine Dr.le (t := tCB (rIsi C.X.K) (tCons (tE C.X a) (tCons (tC (.ty T)) tNil))) ?_ fun _ _ _ q => tE_le (pe_callB call_isi hgi hb boot_isinstance (pa_cons pE (pa_cons (pe_bltn (v := .ty T) hg gD hbt rfl hny hdy) pa_nil h2) h1) (by decide) (by decide) h1 hpl) q
  cases f with
  | no => trivial
  | er y => exact fun σ F H E w Q => ha σ F H E w _
  | ok x => exact fun σ F H E Q q => ha σ F H E _ fun v F1 H1 g1 hv => ⟨v, .ty T, .type T, .type T, true, rfl, .ty T, by rw [← ht x]; exact dt_ty (Tod.to hv) (pk_now (E.gr.trans g1)), hk, q _ F1 H1 g1 rfl⟩⟩
end
end LJ
set_option Elab.async false
set_option linter.all false
set_option maxRecDepth 100000
set_option maxHeartbeats 4000000
set_option autoImplicit false
namespace LK
open PySem L2 PyProof.Rows
/-- the list at p, its items at ps, their own addresses by place -/
structure LsAt {α : Type} (me : α → Mu) (xs : List α) (F H : Hp) (p : Addr) (ps : List Addr) (Sf : Nat → List Addr) : Prop where
  len : ps.length = xs.length
  sz : xs.length ≤ 16777216
  lst : H p = some (.lst (ps.map V.ref))
  el : ∀ i x q, xs[i]? = some x → ps[i]? = some q → me x F H q (Sf i)
  dj : ∀ i j a, i ≠ j → i < xs.length → j < xs.length → a ∈ Sf i → a ∉ Sf j
  out : ∀ i, i < xs.length → p ∉ Sf i
def mLs {α : Type} (me : α → Mu) (xs : List α) : Mu := fun F H p S => ∃ ps Sf, LsAt me xs F H p ps Sf ∧ ∀ a, a ∈ S ↔ a = p ∨ ∃ i, i < xs.length ∧ a ∈ Sf i
theorem LsAt.get {α : Type} {me : α → Mu} {xs : List α} {F H : Hp} {p : Addr} {ps : List Addr} {Sf : Nat → List Addr} (h : LsAt me xs F H p ps Sf) {i : Nat} (hi : i < xs.length) : ∃ q, ps[i]? = some q ∧ me xs[i] F H q (Sf i) := by
  have hq : ps[i]? = some (ps[i]'(by rw [h.len]; exact hi)) := List.getElem?_eq_getElem _
  exact ⟨_, hq, h.el i _ _ (List.getElem?_eq_getElem hi) hq⟩
theorem LsAt.mo {α : Type} {me : α → Mu} [im : ∀ x, MoM (me x)] {xs : List α} {F F' H H' : Hp} {p : Addr} {ps : List Addr} {Sf : Nat → List Addr} (h : LsAt me xs F H p ps Sf) (e : Exs F F') (k0 : H' p = H p) (k : ∀ i, i < xs.length → ∀ a ∈ Sf i, H' a = H a) : LsAt me xs F' H' p ps Sf :=
  ⟨h.len, h.sz, by rw [k0]; exact h.lst, fun i x q hx hq => (im x).mo e (k i (List.getElem?_eq_some_iff.mp hx).1) (h.el i x q hx hq), h.dj, h.out⟩
instance {α : Type} (me : α → Mu) [im : ∀ x, MoM (me x)] (xs : List α) : MoM (mLs me xs) := ⟨fun {F F' H H' p S} e k ⟨ps, Sf, h, hS⟩ => ⟨ps, Sf, h.mo e (k p ((hS p).mpr (.inl rfl))) (fun i hi a ha => k a ((hS a).mpr (.inr ⟨i, hi, ha⟩))), hS⟩, fun {F H p S} ⟨ps, Sf, h, hS⟩ a ha => by
  rcases (hS a).mp ha with e | ⟨i, hi, ha⟩
  · rw [e, h.lst]; exact fun z => nomatch z
  · obtain ⟨q, _, m⟩ := h.get hi
    exact (im _).own m a ha, fun {F H p S} ⟨ps, Sf, h, hS⟩ a ha o eo => by
  rcases (hS a).mp ha with e | ⟨i, hi, ha⟩
  · rw [e, h.lst] at eo; cases eo; rfl
  · obtain ⟨q, _, m⟩ := h.get hi
    exact (im _).ty m a ha o eo⟩
instance {α : Type} (me : α → Mu) (r : Rp α) [fz : LJ.Fzz me r] [mr : Mo r] : LJ.Fzz (mLs me) (rLst r) := ⟨fun {F F' H p S xs} ⟨ps, Sf, h, hS⟩ hp ee => by
  refine ⟨p, ps.map V.ref, rfl, by rw [hp p ((hS p).mpr (.inl rfl))]; exact h.lst, h.sz, ?_⟩
  have go : ∀ (ys : List α) (qs : List Addr) (n : Nat), qs.length = ys.length → (∀ i y, ys[i]? = some y → xs[n + i]? = some y) → (∀ i q, qs[i]? = some q → ps[n + i]? = some q) → Paired (r F') (qs.map V.ref) ys := by
    intro ys
    induction ys with
    | nil =>
      intro qs n hl _ _
      cases qs with
      | nil => exact .nil
      | cons => simp at hl
    | cons y ys ih =>
      intro qs n hl hy hq
      cases qs with
      | nil => simp at hl
      | cons q qs =>
        have hx := hy 0 y rfl
        have hlt := (List.getElem?_eq_some_iff.mp hx).1
        refine .cons (fz.fz (h.el _ y q hx (hq 0 q rfl)) (fun a ha => hp a ((hS a).mpr (.inr ⟨_, hlt, ha⟩))) ee) (ih qs (n + 1) (by simpa using hl) (fun i z hz => ?_) fun i z hz => ?_)
        · rw [show n + 1 + i = n + (i + 1) by omega]; exact hy (i + 1) z (by simpa using hz)
        · rw [show n + 1 + i = n + (i + 1) by omega]; exact hq (i + 1) z (by simpa using hz)
  exact go xs ps 0 h.len (fun i y hy => by rw [Nat.zero_add]; exact hy) (fun i q hq => by rw [Nat.zero_add]; exact hq)⟩
section
end
end LK
namespace LJ
open PySem L2 LK LKX LKB PyProof.Rows PySem.Spec
section
end
end LJ
set_option Elab.async false
set_option linter.all false
set_option maxRecDepth 100000
set_option maxHeartbeats 4000000
set_option autoImplicit false
namespace LK
open PySem L2 PyProof.Rows
section
end
end LK
namespace LJ
open PySem L2 LK LKX LKB PyProof.Rows PySem.Spec
section
end
end LJ
set_option Elab.async false
set_option linter.all false
set_option maxRecDepth 100000
set_option maxHeartbeats 4000000
set_option autoImplicit false
namespace LK
open PySem L2 PyProof.Rows
def rSum {α β : Type} (r : Rp α) (s : Rp β) : Rp (α ⊕ β) := fun F v x => match x with
  | .inl a => r F v a
  | .inr b => s F v b
instance {α β : Type} (r : Rp α) (s : Rp β) [h : Mo r] [h' : Mo s] : Mo (rSum r s) := ⟨fun {F F' v x} e z => by
  cases x with
  | inl a => exact h.mo e z
  | inr b => exact h'.mo e z⟩
instance {α β : Type} [Inhabited α] : Inhabited (α ⊕ β) := ⟨.inl default⟩
end LK
namespace LJ
open PySem L2 LK LKX LKB PyProof.Rows PySem.Spec
section
end
end LJ
set_option Elab.async false
set_option linter.all false
set_option maxRecDepth 100000
set_option maxHeartbeats 4000000
set_option autoImplicit false
namespace LKX
open PySem PySem.W PySem.Calls PyProof.Rows PySem.HandSPX
section
end
open L2
section
end
open LK
end LKX
namespace LK
open PySem L2 LKX PyProof.Rows
end LK
namespace LJ
open PySem L2 LK LKX LKB PyProof.Rows PySem.Spec
section
end
end LJ
namespace LKX
open PySem PySem.W PySem.Calls PyProof.Rows PySem.HandSPX L2
end LKX
namespace LJ
open PySem L2 LK LKX LKB PyProof.Rows PySem.Spec
end LJ
set_option Elab.async false
set_option linter.all false
set_option maxRecDepth 100000
set_option maxHeartbeats 4000000
set_option autoImplicit false
namespace LK
open PySem L2 PyProof.Rows
end LK
namespace LJ
open PySem L2 LK LKX LKB PyProof.Rows PySem.Spec
section
end
end LJ
set_option Elab.async false
set_option linter.all false
set_option maxRecDepth 100000
set_option maxHeartbeats 4000000
set_option autoImplicit false
namespace LK
open PySem PySem.Spec L2 PyProof.Rows
end LK
namespace LJ
open PySem L2 LK LKX LKB PyProof.Rows PySem.Spec
section
end
section
end
end LJ
set_option Elab.async false
set_option linter.all false
set_option maxRecDepth 100000
set_option maxHeartbeats 4000000
set_option autoImplicit false
namespace LJ
open PySem L2 LK LKX LKB PyProof.Rows PySem.Spec
section
end
end LJ
set_option Elab.async false
set_option linter.all false
set_option maxRecDepth 100000
set_option maxHeartbeats 4000000
set_option autoImplicit false
namespace LK
open PySem L2 PyProof.Rows
/-- a dict that is locked -/
def rDkL {κ β : Type} (rk : Rp κ) [Ke rk] (rv : Rp β) : Rp (List (κ × β)) := fun F v d => ∃ p od kvs, v = .ref p ∧ F p = some (.frz od (.dK kvs)) ∧ Paired (PK rk rv F) kvs d
section
variable {κ β : Type} {rk : Rp κ} [ke : Ke rk] {rv : Rp β}
instance [Mo rk] [Mo rv] : Mo (rDkL rk rv) := ⟨fun e ⟨p, od, kvs, h1, h2, h3⟩ => ⟨p, od, kvs, h1, e _ _ h2, pmap (fun _ _ z => z.mo e) h3⟩⟩
instance : Nn (rDkL rk rv) := ⟨fun ⟨_, _, _, h, _⟩ => by rw [h]; intro z; cases z⟩
theorem rDkL.un {F : Hp} {v : V} {d : List (κ × β)} (h : rDkL rk rv F v d) : rDk rk rv F v d := by
  obtain ⟨p, od, kvs, h1, h2, h3⟩ := h
  exact ⟨p, kvs, h1, .inr ⟨od, h2⟩, h3⟩
end
/-- an own dict, locked -/
def mDL {κ β : Type} (rk : Rp κ) [Ke rk] (rv : Rp β) (d : List (κ × β)) : Mu := fun F H p S => S = [p] ∧ ∃ od kvs, H p = some (.frz od (.dK kvs)) ∧ Paired (PK rk rv F) kvs d
instance {κ β : Type} (rk : Rp κ) [Ke rk] (rv : Rp β) [Mo rk] [Mo rv] (d : List (κ × β)) : MoM (mDL rk rv d) := ⟨fun e k ⟨h0, od, kvs, h1, h2⟩ => ⟨h0, od, kvs, by rw [k _ (by rw [h0]; exact List.mem_cons_self)]; exact h1, pmap (fun _ _ z => z.mo e) h2⟩,
  fun ⟨h0, od, kvs, h1, _⟩ a ha => by rw [h0] at ha; rw [List.mem_singleton.mp ha, h1]; exact (fun z => nomatch z), fun ⟨h0, od, kvs, h1, _⟩ a ha o e => by rw [h0] at ha; rw [List.mem_singleton.mp ha, h1] at e; cases e; rfl⟩
section
end
end LK
namespace LJ
open PySem L2 LK LKX LKB PyProof.Rows PySem.Spec
section
end
end LJ
set_option Elab.async false
set_option linter.all false
set_option maxRecDepth 100000
set_option maxHeartbeats 4000000
set_option autoImplicit false
namespace LK
open PySem PySem.Spec L2 PyProof.Rows
end LK
namespace LJ
open PySem L2 LK LKX LKB PyProof.Rows PySem.Spec
section
end
section
end
end LJ
namespace LJ
open PySem L2 LK LKX LKB PyProof.Rows PySem.Spec
def optR {ε α : Type} : Option α → R ε α
  | some y => .ok y
  | none => .no
section
variable {C : Cn} {β ρ ε Z S S' ζ : Type} {J : Jn β ρ ε Z} {G : List LK.Slot} {slk : S' → List LK.Slot} {e : Expr} {st : List Stmt} {m : Md}
theorem xopt {α : Type} {r : Rp α} {f : R Er (Option α)} (h : XE C e G m (rOpt r) f) : XE C e G m r (f.bind optR) := ⟨fun F0 H0 => by
  have h := h.h F0 H0
  cases f with
  | no => trivial
  | er y => exact h
  | ok x =>
    cases x with
    | none => trivial
    | some y => exact h⟩
end
end LJ
set_option Elab.async false
set_option linter.all false
set_option maxRecDepth 100000
set_option maxHeartbeats 4000000
set_option autoImplicit false
namespace LK
open PySem L2 PyProof.Rows
/-- the key of a tuple -/
def tkey (k : List Int) : List Key := k.map Sum.inl
section
variable {β : Type} {rv : Rp β}
/-- an item -/
def PT (rv : Rp β) (F : Hp) (kv : List Key × V) (x : List Int × β) : Prop := kv.1 = tkey x.1 ∧ rv F kv.2 x.2
theorem PT.mo [Mo rv] {F F' : Hp} (e : Exs F F') {kv : List Key × V} {x : List Int × β} (h : PT rv F kv x) : PT rv F' kv x := ⟨h.1, Mo.mo e h.2⟩
def rTd (rv : Rp β) : Rp (List (List Int × β)) := fun F v d => ∃ p kvs, v = .ref p ∧ Rd F p (.dT kvs) ∧ Paired (PT rv F) kvs d
def rTdL (rv : Rp β) : Rp (List (List Int × β)) := fun F v d => ∃ p od kvs, v = .ref p ∧ F p = some (.frz od (.dT kvs)) ∧ Paired (PT rv F) kvs d
def mTd (rv : Rp β) (d : List (List Int × β)) : Mu := fun F H p S => S = [p] ∧ ∃ kvs, H p = some (.dT kvs) ∧ Paired (PT rv F) kvs d
def mTdL (rv : Rp β) (d : List (List Int × β)) : Mu := fun F H p S => S = [p] ∧ ∃ od kvs, H p = some (.frz od (.dT kvs)) ∧ Paired (PT rv F) kvs d
instance [Mo rv] : Mo (rTd rv) := ⟨fun e ⟨p, kvs, h1, h2, h3⟩ => ⟨p, kvs, h1, e.rd h2 rfl, pmap (fun _ _ z => z.mo e) h3⟩⟩
instance [Mo rv] : Mo (rTdL rv) := ⟨fun e ⟨p, od, kvs, h1, h2, h3⟩ => ⟨p, od, kvs, h1, e _ _ h2, pmap (fun _ _ z => z.mo e) h3⟩⟩
instance [Mo rv] (d : List (List Int × β)) : MoM (mTd rv d) := ⟨fun e k ⟨h0, kvs, h1, h2⟩ => ⟨h0, kvs, by rw [k _ (by rw [h0]; exact List.mem_cons_self)]; exact h1, pmap (fun _ _ z => z.mo e) h2⟩,
  fun ⟨h0, kvs, h1, _⟩ a ha => by rw [h0] at ha; rw [List.mem_singleton.mp ha, h1]; exact (fun z => nomatch z), fun ⟨h0, kvs, h1, _⟩ a ha o e => by rw [h0] at ha; rw [List.mem_singleton.mp ha, h1] at e; cases e; rfl⟩
instance [Mo rv] (d : List (List Int × β)) : MoM (mTdL rv d) := ⟨fun e k ⟨h0, od, kvs, h1, h2⟩ => ⟨h0, od, kvs, by rw [k _ (by rw [h0]; exact List.mem_cons_self)]; exact h1, pmap (fun _ _ z => z.mo e) h2⟩,
  fun ⟨h0, od, kvs, h1, _⟩ a ha => by rw [h0] at ha; rw [List.mem_singleton.mp ha, h1]; exact (fun z => nomatch z), fun ⟨h0, od, kvs, h1, _⟩ a ha o e => by rw [h0] at ha; rw [List.mem_singleton.mp ha, h1] at e; cases e; rfl⟩
theorem rTdL.un {F : Hp} {v : V} {d : List (List Int × β)} (h : rTdL rv F v d) : rTd rv F v d := by
  obtain ⟨p, od, kvs, h1, h2, h3⟩ := h
  exact ⟨p, kvs, h1, .inr ⟨od, h2⟩, h3⟩
end
section
variable {β : Type} {rv : Rp β} {F0 H0 : Hp} {G : List Slot}
/-- a tuple that stands may be frozen -/
theorem Gr.tup {F H : Hp} {q : Addr} {vs : List V} (e : Ex F H) (h : H q = some (.tup vs)) : Gr F H (upd F q (.tup vs)) H := by
  refine ⟨fun a u z => ?_, fun a u z => ?_, Ex.refl H, fun a u z n => ?_⟩
  · by_cases ha : a = q
    · subst ha
      have := e a u z
      rw [h] at this; cases this
      exact upd_same
    · rw [upd_ne ha]; exact z
  · by_cases ha : a = q
    · subst ha; rw [upd_same] at z; cases z; exact h
    · rw [upd_ne ha] at z; exact e a u z
  · by_cases ha : a = q
    · subst ha; rw [upd_same] at z; cases z; exact .inr rfl
    · rw [upd_ne ha, n] at z; cases z
end
end LK
namespace LJ
open PySem L2 LK LKX LKB PyProof.Rows PySem.Spec
section
end
section
end
end LJ
set_option Elab.async false
set_option linter.all false
set_option maxRecDepth 100000
set_option maxHeartbeats 4000000
set_option autoImplicit false
namespace LK
open PySem PySem.Spec L2 PyProof.Rows
end LK
namespace LJ
open PySem L2 LK LKX LKB PyProof.Rows PySem.Spec
section
end
section
variable {C : Cn} {G : List LK.Slot} {m m1 m2 : Md} {a b : Expr} {pos p : Pos} {α : Type} {r : Rp α} [DecidableEq α] [Mo r] [A : Da r]
theorem da_shaped {F : Hp} {v : V} {x : α} (h : r F v x) (hd : A.dep ≤ 64) : SeqAt.shaped (A.d x) = true := by
  unfold SeqAt.shaped
  rw [A.lay h, decide_eq_true (Nat.le_trans (A.dep_le x) hd)]; rfl
end
section
end
section
end
theorem XQ.cast {C : Cn} {G : List LK.Slot} {e : Expr} {f g : R Er Bool} (h : XQ C e G f) (q : f = g) : XQ C e G g := q ▸ h
end LJ
set_option Elab.async false
set_option linter.all false
set_option maxRecDepth 100000
set_option maxHeartbeats 4000000
set_option autoImplicit false
namespace LK
open PySem L2 PyProof.Rows
/-- the fields of a class, the last one outermost -/
structure Rc (α : Type) where
  ns : List Str
  rel : Hp → List V → α → Prop
def Rc.nil : Rc Unit := ⟨[], fun _ us _ => us = []⟩
def Rc.add {α β : Type} (R : Rc α) (f : Str) (r : Rp β) : Rc (α × β) := ⟨R.ns ++ [f], fun F us x => ∃ ws u, us = ws ++ [u] ∧ R.rel F ws x.1 ∧ r F u x.2⟩
class MoRc {α : Type} (R : Rc α) : Prop where
  mo : ∀ {F F' : Hp} {us : List V} {a : α}, Exs F F' → R.rel F us a → R.rel F' us a
  len : ∀ {F : Hp} {us : List V} {a : α}, R.rel F us a → us.length = R.ns.length
instance : MoRc Rc.nil := ⟨fun _ h => h, fun h => by rw [show _ = _ from h]; rfl⟩
instance {α β : Type} (R : Rc α) (f : Str) (r : Rp β) [m : MoRc R] [h : Mo r] : MoRc (R.add f r) := ⟨fun e ⟨ws, u, h1, h2, h3⟩ => ⟨ws, u, h1, m.mo e h2, h.mo e h3⟩, fun ⟨ws, u, h1, h2, h3⟩ => by
  rw [h1, List.length_append, m.len h2]
  show _ = (R.ns ++ [f]).length
  rw [List.length_append]; rfl⟩
def rR {α : Type} (C : Addr) (R : Rc α) : Rp α := fun F v a => ∃ p dx us, v = .ref p ∧ F p = some (.ins C dx (R.ns.zip us)) ∧ R.rel F us a
instance {α : Type} (C : Addr) (R : Rc α) [m : MoRc R] : Mo (rR C R) := ⟨fun e ⟨p, dx, us, h1, h2, h3⟩ => ⟨p, dx, us, h1, e.at_ h2 rfl, m.mo e h3⟩⟩
instance {α : Type} (C : Addr) (R : Rc α) : Nn (rR C R) := ⟨fun ⟨_, _, _, h, _⟩ => by rw [h]; intro z; cases z⟩
def mR {α : Type} (C : Addr) (R : Rc α) (o : Option Addr) (a : α) : Mu := fun F H p S => (∀ q, o = some q → p = q) ∧ ∃ dx us, S = [p, dx] ∧ H p = some (.ins C dx (R.ns.zip us)) ∧ H dx = some (.own p) ∧ R.rel F us a
instance {α : Type} (C : Addr) (R : Rc α) [m : MoRc R] (o : Option Addr) (a : α) : MoM (mR C R o a) := ⟨fun {F F' H H' p S} e k ⟨h0, dx, us, h1, h2, h3, h4⟩ => by
    subst h1
    exact ⟨h0, dx, us, rfl, by rw [k p (by simp)]; exact h2, by rw [k dx (by simp)]; exact h3, m.mo e h4⟩, fun {F H p S} ⟨h0, dx, us, h1, h2, h3, _⟩ a ha => by
    subst h1
    rcases List.mem_cons.mp ha with e | ha
    · rw [e, h2]; exact fun z => nomatch z
    · rw [List.mem_singleton.mp ha, h3]; exact (fun z => nomatch z), fun {F H p S} ⟨h0, dx, us, h1, h2, h3, _⟩ a ha o eo => by
    subst h1
    rcases List.mem_cons.mp ha with e | ha
    · rw [e, h2] at eo; cases eo; rfl
    · rw [List.mem_singleton.mp ha, h3] at eo; cases eo; rfl⟩
instance {α : Type} (C : Addr) (R : Rc α) [MoRc R] : Pin (mR C R) := ⟨fun h => h.1 _ rfl, fun h => ⟨fun _ z => (nomatch z), h.2⟩, fun h => ⟨fun _ z => Option.some.inj z, h.2⟩, fun _ _ => inferInstance⟩
instance {α : Type} (C : Addr) (R : Rc α) [m : MoRc R] (o : Option Addr) : LJ.Fzz (mR C R o) (rR C R) := ⟨fun {F F' H p S a} ⟨_, dx, us, h1, h2, h3, h4⟩ hp ee => by
  subst h1
  exact ⟨p, dx, us, rfl, by rw [hp p (by simp)]; exact h2, m.mo ee.s h4⟩⟩
theorem rR_ins {α : Type} {C : Addr} {R : Rc α} : ∀ (F : Hp) (v : V) (y : α), rR C R F v y → ∃ p dx fs, v = .ref p ∧ F p = some (.ins C dx fs) := fun _ _ _ ⟨p, dx, us, h1, h2, _⟩ => ⟨p, dx, _, h1, h2⟩
theorem putF_new {f : Str} {v : V} : ∀ {fs : List (Str × V)}, (∀ x ∈ fs, x.1 ≠ f) → putF f v fs = fs ++ [(f, v)]
  | [], _ => rfl
  | (g, x) :: r, h => by
    show (if g = f then (g, v) :: r else (g, x) :: putF f v r) = _
    rw [if_neg (h _ List.mem_cons_self), putF_new fun y hy => h y (List.mem_cons_of_mem _ hy)]; rfl
theorem zip_fst {α β : Type} : ∀ {as : List α} {bs : List β} {x : α × β}, x ∈ as.zip bs → x.1 ∈ as
  | _ :: as, _ :: bs, x, h => by
    rw [List.zip_cons_cons] at h
    rcases List.mem_cons.mp h with rfl | h
    · exact List.mem_cons_self
    · exact List.mem_cons_of_mem _ (zip_fst h)
theorem zip_snoc {α β : Type} : ∀ {as : List α} {bs : List β} (a : α) (b : β), bs.length = as.length → (as ++ [a]).zip (bs ++ [b]) = as.zip bs ++ [(a, b)]
  | [], [], _, _, _ => rfl
  | x :: as, y :: bs, a, b, h => by
    show (x, y) :: (as ++ [a]).zip (bs ++ [b]) = _
    rw [zip_snoc a b (by simpa using h)]; rfl
theorem lookup_snoc {f g : Str} {v : V} : ∀ {fs : List (Str × V)}, (fs ++ [(g, v)]).lookup f = match fs.lookup f with
    | some u => some u
    | none => if f = g then some v else none
  | [] => by
    show List.lookup f [(g, v)] = if f = g then some v else none
    by_cases h : f = g
    · subst h; simp [List.lookup]
    · have : (f == g) = false := by simpa using h
      simp [List.lookup, this, h]
  | (k, u) :: fs => by
    by_cases h : f = k
    · subst h; simp [List.lookup]
    · have h' : (f == k) = false := by simpa using h
      show List.lookup f ((k, u) :: (fs ++ [(g, v)])) = _
      simp only [List.lookup, h']
      exact lookup_snoc
theorem lookup_none {f : Str} : ∀ {fs : List (Str × V)}, (∀ x ∈ fs, x.1 ≠ f) → fs.lookup f = none
  | [], _ => rfl
  | (k, u) :: fs, h => by
    have h' : (f == k) = false := by simpa using fun e => h _ List.mem_cons_self (e : f = k).symm
    simp only [List.lookup, h']
    exact lookup_none fun y hy => h y (List.mem_cons_of_mem _ hy)
/-- a field -/
structure Fd {α β : Type} (R : Rc α) (f : Str) (r : Rp β) (pj : α → β) : Prop where
  at_ : ∀ F us a, R.rel F us a → ∃ u, (R.ns.zip us).lookup f = some u ∧ r F u (pj a)
theorem Fd.last {α β : Type} {R : Rc α} [m : MoRc R] {f : Str} {r : Rp β} (h : f ∉ R.ns := by first | decide | (dsimp only [Rc.add, Rc.nil]; decide)) : Fd (R.add f r) f r (fun x => x.2) := ⟨fun F us a ⟨ws, u, h1, h2, h3⟩ => ⟨u, by
  subst h1
  show ((R.ns ++ [f]).zip (ws ++ [u])).lookup f = _
  have h0 : (R.ns.zip ws).lookup f = none := lookup_none fun x hx e => h (e ▸ zip_fst hx)
  rw [zip_snoc _ _ (m.len h2), lookup_snoc, h0]
  simp, h3⟩⟩
theorem Fd.prev {α β γ : Type} {R : Rc α} [m : MoRc R] {f g : Str} {r : Rp β} {s : Rp γ} {pj : α → β} (h : Fd R f r pj) : Fd (R.add g s) f r (fun x => pj x.1) := ⟨fun F us a ⟨ws, u, h1, h2, h3⟩ => by
  obtain ⟨w, e, rw'⟩ := h.at_ F ws a.1 h2
  refine ⟨w, ?_, rw'⟩
  subst h1
  show ((R.ns ++ [g]).zip (ws ++ [u])).lookup f = _
  rw [zip_snoc _ _ (m.len h2), lookup_snoc, e]⟩
end LK
namespace LJ
open PySem L2 LK LKX LKB PyProof.Rows PySem.Spec
section
variable {C : Cn} {G : List LK.Slot} {m : Md} {e : Expr} {pos : Pos} {f : Str}
theorem xfldR {α β : Type} {C0 : Addr} {Rw : Rc α} {r : Rp β} {pj : α → β} {g : R Er α} (he : XE C e G m (rR C0 Rw) g) (fd : Fd Rw f r pj) (c : Cls C.X.K C0) (n : NoAttr C.X.K C0 f) (hb : attributeBase e f C.X.env (eval e C.X.env) = eval e C.X.env := by rfl) : XE C (.Attribute e f pos) G m r (g.bind fun x => .ok (pj x)) := ⟨fun F0 H0 => by
  have h := he.h F0 H0
  refine Dr.le (t := tFld C.X.K (tE C.X e) f) ?_ fun _ _ _ q => tE_le (pe_fld pE hb) q
  cases g with
  | no => trivial
  | er y => exact fun σ F H E w Q => h σ F H E w _
  | ok a =>
    exact fun σ F H E Q q => h σ F H E _ fun v F1 H1 g1 h1 => by
      obtain ⟨p, dx, us, e1, h2, h3⟩ := h1
      obtain ⟨u, hl, hu⟩ := fd.at_ _ _ _ h3
      exact ⟨p, C0, dx, _, u, e1, pk_now (E.gr.trans g1) _ _ h2, c, n, hl, q u F1 H1 g1 hu⟩⟩
end
section
variable {C : Cn} {β ρ ε Z S' : Type} {J : Jn β ρ ε Z} {G : List LK.Slot} {slk : S' → List LK.Slot} {e : Expr} {rest : List Stmt} {pos p1 p2 : Pos} {x f : Str}
/-- self.f = e, a new field -/
theorem xb_initX {α γ : Type} {C0 : Addr} {o : Option Addr} {Rw : Rc α} [mr : MoRc Rw] {r : Rp γ} [mo : Mo r] {a : α} {Mu0 : Mu} {im : MoM Mu0} {g : R Er γ} {M : γ → (S' → R ε ρ) → R ε ρ} (hM : ∀ F H p S, Mu0 F H p S → mR C0 Rw o a F H p S) (i : Nat) (G' : γ → List LK.Slot) (z : Z) (hz : Lw G (J.slz z)) (hi : G[i]? = some (.ow Mu0 im)) (he : XE C e G .sh r g) (c : Cls C.X.K C0) (n : NoAttr C.X.K C0 f) (hf : f ∉ Rw.ns) (hl : Rw.ns.length < 1000)
    (hG : ∀ b, G.set i (sO (mR C0 (Rw.add f r) o (a, b))) = G' b) (hr : ∀ b, XB C J rest (G' b) slk (M b))
    (hN : C.X.N[i]? = some x := by rfl) (hv : Vis C.X.env.scope x := by first | exact Or.inl rfl | exact Or.inr (Or.inl rfl) | exact Or.inr (Or.inr rfl)) (hd : (x == ("__debug__" : Str)) = false := by decide) (hcd : (x == ("__classdict__" : Str)) = false := by decide)
    (hsw : swapsWith e (some (.Attribute (.Name x p1) f p2)) pos.line C.X.env = pure false := by rfl) :
    XB C J (.Assign [.Attribute (.Name x p1) f p2] e pos :: rest) G slk (fun k => g.thn (fun y => J.em y z) fun b => M b k) := ⟨fun F0 H0 A D an k hk hA σ F H E => by
  have he := he.h F0 H0
  refine tS_le (pss_cons (ps_fld (pe_var hN hv hd hcd) pE hsw) pS) ?_
  cases g with
  | no => exact (an.no hA).elim
  | er y => exact he σ F H E (an.air hz hA E) _
  | ok b =>
    refine he σ F H E _ fun v F1 H1 g1 hv1 => ?_
    have E1 := E.gro g1
    obtain ⟨p, S, hx, hS, hm⟩ := E1.ow_at hi
    obtain ⟨h0, dx, us, hS', h2, h3, h4⟩ := hM _ _ _ _ hm
    have hlen := mr.len h4
    have hnew : putF f v (Rw.ns.zip us) = (Rw.ns ++ [f]).zip (us ++ [v]) := by
      rw [zip_snoc _ _ hlen, putF_new (fun y hy e => hf (by rw [← e]; exact zip_fst hy))]
    refine ⟨_, hx, p, C0, dx, _, rfl, h2, c, n, by rw [List.length_zip]; omega, (hr b).h F0 H0 A D an k hk hA σ F1 _ ?_⟩
    rw [← hG b, hnew]
    refine E1.mut hi (p := p) (S := []) (S' := []) fun p' S'' hx' hS'' hm' => ?_
    rw [hx] at hx'
    cases Option.some.inj (Option.some.inj hx')
    obtain ⟨k0, dx', us', k1, k2, k3, k4⟩ := hM _ _ _ _ hm'
    have k2 := Option.some.inj (h2.symm.trans k2)
    injection k2 with _ e1 _
    subst e1
    subst k1
    have hp1 : F1 p = none := (hS'' p (by simp)).1
    have hd1 : F1 dx = none := (hS'' dx (by simp)).1
    have dp : dx ≠ p := fun z => by rw [z, h2] at k3; cases k3
    refine ⟨[p, dx], Ex.refl F1, fun a u h n => (by rw [n] at h; cases h), fun a ha hb hc => ?_, fun a u w => ?_, fun a ha => ?_, ?_⟩
    · exact upd_ne fun z => ha (by simp [z])
    · have hap : a ≠ p := fun z => by rw [z, hp1] at w; cases w
      rw [upd_ne hap]; exact E1.gr.fh a u w
    · rcases List.mem_cons.mp ha with w | ha
      · subst w; exact ⟨.inl (by simp), hp1⟩
      · have w := List.mem_singleton.mp ha
        subst w; exact ⟨.inl (by simp), hd1⟩
    · exact ⟨h0, dx, us ++ [v], rfl, upd_same, by rw [upd_ne dp]; exact k3, us, v, rfl, h4, hv1⟩⟩
theorem m0_mR {C0 : Addr} {o : Option Addr} : ∀ F H p S, m0 C0 o () F H p S → mR C0 Rc.nil o () F H p S := fun F H p S ⟨h0, dx, h1, h2, h3⟩ => ⟨h0, dx, [], h1, h2, h3, rfl⟩
end
end LJ
set_option Elab.async false
set_option linter.all false
set_option maxRecDepth 100000
set_option maxHeartbeats 4000000
set_option autoImplicit false
namespace LK
open PySem L2 PyProof.Rows
section
end
end LK
namespace LJ
open PySem L2 LK LKX LKB PyProof.Rows PySem.Spec
section
end
section
end
instance {α β γ : Type} {r : LK.Rp α} {s : LK.Rp β} {t : LK.Rp γ} : LK.Nn (LK.rP3 r s t) := ⟨fun ⟨_, _, _, _, h, _⟩ => by rw [h]; intro z; cases z⟩
section
open PySem L2 LK LKX
end
end LJ
set_option Elab.async false
set_option linter.all false
set_option maxRecDepth 100000
set_option maxHeartbeats 4000000
set_option autoImplicit false
namespace LJ
open PySem L2 LK LKX PyProof.Rows PySem.Spec
section
variable {X : Cx} {CX : CXT} {k n0 : Nat} {f : Addr} {fd : FuncData} {ps ks : List Str} {sp : Sp} {E : L2.St → XK} {x : Str} {p pos : Pos} {e : Expr} {es : List Expr} {kws : List Keyword} {t tk : TA}
/-- canonical reading of keywords -/
def tK (X : Cx) (kws : List Keyword) : TA := fun σ H Q => ∀ (pos : Pos) (pins : List (Addr × Obj)) (s : Shared), Inv X pins σ H s → wpAny (model X.prog X.w) X.A (evalAll ((backToKw pos (keywordEach kws X.env)).map (·.2))) (AP X pins σ Q) X.xe s
theorem pK : PK X kws (tK X kws) := ⟨fun pos pins s σ H Q I h => h pos pins s I⟩
theorem tK_le (h : PK X kws t) {σ : L2.St} {H : Hp} {Q : List V → Hp → Prop} (q : t σ H Q) : tK X kws σ H Q := fun pos pins s I => h.run pos pins s σ H Q I q
end
section
variable {C : Cn} {G : List LK.Slot} {m : Md} {e : Expr} {es : List Expr} {kws : List Keyword} {x : Str} {p pos kpos : Pos} {nm : Option Str}
structure XKw (C : Cn) (kws : List Keyword) (G : List LK.Slot) {α : Type} (P : Pt α) (f : R Er α) : Prop where
  h : ∀ F0 H0, Ar C F0 H0 (tK C.X kws) G (fun a => Ea F0 H0 (tK C.X kws) G P.ra a) f
theorem xw_nil : XKw C [] G .nil (.ok ()) := ⟨fun F0 H0 σ F H E Q q => tK_le pk_nil (ea_nil (F0 := F0) (H0 := H0) σ F H E Q q)⟩
theorem xw_cons {α β : Type} {r : Rp α} [im : Mo r] {P : Pt β} {f : R Er α} {g : R Er β} (ha : XE C e G m r f) (hr : XKw C kws G P g) : XKw C (⟨nm, e, kpos⟩ :: kws) G (.cons m r im P) (f.bind fun x => g.bind fun xs => .ok (x, xs)) := ⟨fun F0 H0 => by
  have ha := ha.h F0 H0; have hr := hr.h F0 H0
  have le : ∀ σ H Q, tCons (tE C.X e) (tK C.X kws) σ H Q → tK C.X (⟨nm, e, kpos⟩ :: kws) σ H Q := fun _ _ _ q => tK_le (pk_cons pE pK) q
  cases f with
  | no => trivial
  | er y => exact fun σ F H E w Q => le _ _ _ (ha σ F H E w _)
  | ok x =>
    cases g with
    | no => trivial
    | er y => exact fun σ F H E w Q => le _ _ _ (ha σ F H E _ fun v F1 H1 g1 _ => hr σ F1 H1 (E.gro g1) (fun F' H' cls d g z => w F' H' cls d (g1.trans g) z) _)
    | ok xs => exact fun σ F H E Q q => le _ _ _ (ea_cons ha hr σ F H E Q q)⟩
end
end LJ
set_option Elab.async false
set_option linter.all false
set_option maxRecDepth 100000
set_option maxHeartbeats 4000000
set_option autoImplicit false
namespace LJ
open PySem L2 LK LKX LKB PyProof.Rows PySem.Spec
section
end
section
end
end LJ
set_option Elab.async false
set_option linter.all false
set_option maxRecDepth 100000
set_option maxHeartbeats 4000000
set_option autoImplicit false
namespace LJ
open PySem L2 LK LKX LKB PyProof.Rows PySem.Spec
/-- where nothing is known nothing is promised -/
theorem fnok_no {α β : Type} {P : Program} {w : World} {K : PySem.W.Frag} {mg : Str → Option Value} {base : Heap} {X : XT} {T : Pt α} {rs : β → Slot} {fa : Addr} {fd : FuncData} {ps : List Str} {k : Nat} (hps : ps.length = T.count) :
    FnOk P w K mg base (L2.CX P w) k fa fd ps (spR X T (fun _ => .no) rs) where
  len := fun vs H Q E h => by rw [hps]; exact spR_len h
  run := by
    intros
    rename_i h
    obtain ⟨_, _, _, _, h, _⟩ := h
    exact (h rfl).elim
end LJ
namespace LK
open PySem L2 PyProof.Rows PySem.Spec
/-- data that are never None -/
class Tnn {α : Type} (r : Rp α) [t : Tod r] : Prop where
  nn : ∀ a, t.d a ≠ .non
instance : Tnn rInt := ⟨fun _ e => by cases e⟩
instance : Tnn rBl := ⟨fun _ e => by cases e⟩
instance : Tnn rTx := ⟨fun _ e => by cases e⟩
instance {α : Type} (r : Rp α) [Tod r] : Tnn (rLst r) := ⟨fun _ e => by cases e⟩
instance {α : Type} (r : Rp α) [Tod r] : Tnn (rTup r) := ⟨fun _ e => by cases e⟩
instance {α β : Type} (r : Rp α) (s : Rp β) [Tod r] [Tod s] : Tnn (rPr r s) := ⟨fun _ e => by cases e⟩
def todO {α : Type} (f : α → Dt) : Option α → Dt
  | none => .non
  | some a => f a
instance {α : Type} (r : Rp α) [t : Tod r] [n : Tnn r] : Tod (rOpt r) where
  d := todO t.d
  to := fun {F v a} h => by
    cases a with
    | none => unfold todO rDt; exact h
    | some a => exact t.to h
  inj := fun {a b} e => by
    cases a with
    | none =>
      cases b with
      | none => rfl
      | some b => exact absurd (show t.d b = .non from e.symm) (n.nn b)
    | some a =>
      cases b with
      | none => exact absurd (show t.d a = .non from e) (n.nn a)
      | some b => exact congrArg some (t.inj e)
instance {α : Type} (r : Rp α) [t : Tod r] [n : Tnn r] (k : Nat) [h : Dep r k] : Dep (rOpt r) k := ⟨fun a => by
  cases a with
  | none => exact Nat.zero_le _
  | some a => exact h.le a⟩
end LK
set_option Elab.async false
set_option linter.all false
set_option maxRecDepth 100000
set_option maxHeartbeats 4000000
set_option autoImplicit false
namespace LJ
open PySem L2 LK LKX LKB PyProof.Rows PySem.Spec
section
end
section
end
end LJ
namespace LJ
open PySem L2 LK LKX LKB PyProof.Rows PySem.Spec
end LJ
set_option autoImplicit true
set_option maxRecDepth 100000
open PySem L2 LK LKX LKB PyProof.Rows PySem.Spec
namespace LKB
section
open PySem.W
end
section
end
end LKB
namespace LJ
section
end
end LJ
set_option Elab.async false
set_option linter.all false
set_option maxRecDepth 100000
set_option maxHeartbeats 4000000
set_option autoImplicit false
namespace LJ
open PySem L2 LK LKX LKB PyProof.Rows PySem.Spec
section
end
end LJ
set_option Elab.async false
set_option linter.all false
set_option maxRecDepth 100000
set_option maxHeartbeats 4000000
set_option autoImplicit false
namespace LJ
open PySem L2 LK LKX LKB PyProof.Rows PySem.Spec
section
end
section
end
end LJ
set_option Elab.async false
set_option linter.all false
set_option maxRecDepth 100000
set_option maxHeartbeats 4000000
set_option autoImplicit false
namespace LJ
open PySem L2 LK LKX LKB PyProof.Rows PySem.Spec
section
end
end LJ
set_option Elab.async false
set_option linter.all false
set_option maxRecDepth 100000
set_option autoImplicit false
namespace R
variable {ε δ α β : Type}
theorem bindOk (a : α) (k : α → R ε β) : (R.ok a : R ε α).bind k = k a := Eq.trans rfl rfl
theorem bindEr (e : ε) (k : α → R ε β) : (R.er e : R ε α).bind k = .er e := Eq.trans rfl rfl
theorem bindNo (k : α → R ε β) : (R.no : R ε α).bind k = .no := Eq.trans rfl rfl
theorem thnOk (a : α) (g : ε → δ) (k : α → R δ β) : (R.ok a : R ε α).thn g k = k a := Eq.trans rfl rfl
theorem thnEr (e : ε) (g : ε → δ) (k : α → R δ β) : (R.er e : R ε α).thn g k = .er (g e) := Eq.trans rfl rfl
theorem thnNo (g : ε → δ) (k : α → R δ β) : (R.no : R ε α).thn g k = .no := Eq.trans rfl rfl
theorem noerOk (a : α) : (R.ok a : R ε α).noer = (R.ok a : R δ α) := Eq.trans rfl rfl
end R
set_option Elab.async false
set_option linter.all false
set_option maxRecDepth 100000
set_option maxHeartbeats 4000000
set_option autoImplicit false
namespace LJ
open PySem L2 LK LKX LKB PyProof.Rows PySem.Spec
section
end
section
end
end LJ
namespace LK
open PySem L2 LKX LKB PyProof.Rows PySem.Spec
/-- a datum that stands may be kept: tuples of flat things -/
class Lf {α : Type} (r : Rp α) : Prop where
  late : ∀ {F H : Hp} {v : V} {a : α}, Ex F H → r H v a → ∃ F', Gr F H F' H ∧ r F' v a
instance {α : Type} (r : Rp α) [Fl r] : Lf r := ⟨fun {F H v a} e h => ⟨F, Gr.refl e, Fl.fl h⟩⟩
instance {α β : Type} (r : Rp α) (s : Rp β) [Mo r] [Lf r] [Mo s] [Lf s] : Lf (rPr r s) := ⟨fun {F H v x} e ⟨p, u, w, h1, h2, h3, h4⟩ => by
  have g1 := Gr.tup e h2
  obtain ⟨F2, g2, k2⟩ := Lf.late (r := r) g1.fh h3
  obtain ⟨F3, g3, k3⟩ := Lf.late (r := s) g2.fh h4
  exact ⟨F3, (g1.trans g2).trans g3, p, u, w, h1, g3.ff _ _ (g2.ff _ _ upd_same), mox g3.ff k2, k3⟩⟩
end LK
namespace LJ
open PySem L2 LK LKX LKB PyProof.Rows PySem.Spec
section
end
end LJ
set_option Elab.async false
set_option linter.all false
set_option maxRecDepth 100000
set_option maxHeartbeats 4000000
set_option autoImplicit false
namespace LG
open PySem PySem.Spec PyProof.Rows L2 GenW
section
end
end LG
set_option Elab.async false
set_option linter.all false
set_option maxRecDepth 100000
set_option maxHeartbeats 4000000
set_option autoImplicit false
namespace LG
open PySem PySem.Spec PyProof.Rows L2 GenW LK LKX LKB LJ
/-- canonical readings -/
def tY (X : Cx) (st : List Stmt) : TGn := fun D ys σ H => ∀ (A : Around) (S : Addr) (ip : List (Addr × Obj)) (R : GenEnd) (n : Nat) (s₀ : Shared) (c : Code) (fs : List Frame) (K : Flow → Sem PySem.Fin) (J : Value → Sem PySem.Fin) (gd : Bool → Bool) (lv : List Value → List Value) (s : Shared),
  GC X S ip A c fs gd → n + ys.length = sizeLine → GK X S ip A R c fs K J D → GI X S ip ys σ H s → Seg (model X.prog X.w) A R (GY X S) n s₀ c ((execs st X.env).wrap K J gd lv) fs s
/-- at these slots, with this handed out -/
def GkY (F0 H0 : Hp) {β : Type} (r : Rp β) (t : List V → L2.St → Hp → Prop) (G : List LK.Slot) (zs : List β) : Prop := ∀ σ F H ys, EnvOk F0 H0 G σ F H → Paired (r F) ys zs → zs.length ≤ 16777216 → t ys σ H
structure AnsY (C : Cn) {β : Type} (F0 H0 : Hp) (A : R Er (List β) → Prop) : Prop where
  no : ¬ A .no
  er : ∀ e, A (.er e) → ∀ σ F H cls d, Gr F0 H0 F H → rEr C.T F cls d e → C.W cls d σ H
structure XY (C : Cn) {β S' : Type} (r : Rp β) (st : List Stmt) (G : List LK.Slot) (slk : S' → List LK.Slot) (M : (S' → List β → R Er (List β)) → List β → R Er (List β)) : Prop where
  h : ∀ (F0 H0 : Hp) (A : R Er (List β) → Prop) (D : GEnds), AnsY C F0 H0 A → ∀ k : S' → List β → R Er (List β), (∀ s' zs, A (k s' zs) → GkY F0 H0 r D.nx (slk s') zs) → ∀ zs, A (M k zs) → GkY F0 H0 r (tY C.X st D) G zs
theorem XY.cast {C : Cn} {β S' : Type} {r : Rp β} {st : List Stmt} {G : List LK.Slot} {slk : S' → List LK.Slot} {M M' : (S' → List β → R Er (List β)) → List β → R Er (List β)} (h : XY C r st G slk M) (e : ∀ k zs, M k zs = M' k zs) : XY C r st G slk M' := by
  have : M = M' := by funext k zs; exact e k zs
  rwa [this] at h
theorem AnsY.down {C : Cn} {β : Type} {F0 H0 F1 : Hp} {A : R Er (List β) → Prop} (a : AnsY C F0 H0 A) (b : Bs F0 H0 F1) : AnsY C F1 H0 A := ⟨a.no, fun e h σ F H cls d g => a.er e h σ F H cls d (g.down b)⟩
section
variable {C : Cn} {β S S' T : Type} {r : Rp β} {G : List LK.Slot} {slk : S' → List LK.Slot} {e c tg it : Expr} {rest a b body : List Stmt} {pos yp : Pos} {m : Md}
theorem AnsY.air {F0 H0 : Hp} {A : R Er (List β) → Prop} (an : AnsY C F0 H0 A) {x : Er} (h : A (.er x)) {σ : L2.St} {F H : Hp} {G : List LK.Slot} (E : EnvOk F0 H0 G σ F H) : ∀ F' H' cls d, Gr F H F' H' → rEr C.T F' cls d x → C.W cls d σ H' :=
  fun F' H' cls d g q => an.er x h σ F' H' cls d (E.gr.trans g) q
end
section
end
end LG
set_option Elab.async false
set_option linter.all false
set_option maxRecDepth 100000
set_option maxHeartbeats 4000000
set_option autoImplicit false
namespace LK
open PySem L2 LKX LKB PyProof.Rows PySem.Spec
inductive Cd where
  | any
  | both (a b : Cd)
  | either (a b : Cd)
  | opp (a : Cd)
  | holds (l : List Int) (n : Int)
  | only (l : List Int)
  | unt (l : List Int)
  | unr (l : List Int)
  | locks (l : List Int)
instance : Inhabited Cd := ⟨.any⟩
def rCdF (cl : Nat → Addr) (F : Hp) : Cd → V → Prop
  | .any, v => rR (cl 110) Rc.nil F v ()
  | .both a b, v => ∃ p dx u w, v = .ref p ∧ F p = some (.ins (cl 111) dx [("first", u), ("second", w)]) ∧ rCdF cl F a u ∧ rCdF cl F b w
  | .either a b, v => ∃ p dx u w, v = .ref p ∧ F p = some (.ins (cl 112) dx [("first", u), ("second", w)]) ∧ rCdF cl F a u ∧ rCdF cl F b w
  | .opp a, v => ∃ p dx u, v = .ref p ∧ F p = some (.ins (cl 113) dx [("inner", u)]) ∧ rCdF cl F a u
  | .holds l n, v => rR (cl 114) ((Rc.nil.add "needed" (rLst rInt)).add "least" rInt) F v (((), l), n)
  | .only l, v => rR (cl 115) (Rc.nil.add "exact" (rLst rInt)) F v ((), l)
  | .unt l, v => rR (cl 116) (Rc.nil.add "listed" (rLst rInt)) F v ((), l)
  | .unr l, v => rR (cl 117) (Rc.nil.add "listed" (rLst rInt)) F v ((), l)
  | .locks l, v => rR (cl 118) (Rc.nil.add "listed" (rLst rInt)) F v ((), l)
def rCd (cl : Nat → Addr) : Rp Cd := fun F v x => rCdF cl F x v
theorem rCdF_mo {cl : Nat → Addr} {F F' : Hp} (e : Exs F F') : ∀ {x : Cd} {v : V}, rCdF cl F x v → rCdF cl F' x v
  | .any, _, h => Mo.mo (r := rR (cl 110) Rc.nil) e h
  | .both _ _, _, ⟨p, dx, u, w, h1, h2, h3, h4⟩ => ⟨p, dx, u, w, h1, e.at_ h2 rfl, rCdF_mo e h3, rCdF_mo e h4⟩
  | .either _ _, _, ⟨p, dx, u, w, h1, h2, h3, h4⟩ => ⟨p, dx, u, w, h1, e.at_ h2 rfl, rCdF_mo e h3, rCdF_mo e h4⟩
  | .opp _, _, ⟨p, dx, u, h1, h2, h3⟩ => ⟨p, dx, u, h1, e.at_ h2 rfl, rCdF_mo e h3⟩
  | .holds _ _, _, h => Mo.mo (r := rR (cl 114) ((Rc.nil.add "needed" (rLst rInt)).add "least" rInt)) e h
  | .only _, _, h => Mo.mo (r := rR (cl 115) (Rc.nil.add "exact" (rLst rInt))) e h
  | .unt _, _, h => Mo.mo (r := rR (cl 116) (Rc.nil.add "listed" (rLst rInt))) e h
  | .unr _, _, h => Mo.mo (r := rR (cl 117) (Rc.nil.add "listed" (rLst rInt))) e h
  | .locks _, _, h => Mo.mo (r := rR (cl 118) (Rc.nil.add "listed" (rLst rInt))) e h
instance (cl : Nat → Addr) : Mo (rCd cl) := ⟨fun e h => rCdF_mo e h⟩
/-- the class of a condition, by its number -/
def Cd.code : Cd → Nat
  | .any => 110
  | .both _ _ => 111
  | .either _ _ => 112
  | .opp _ => 113
  | .holds _ _ => 114
  | .only _ => 115
  | .unt _ => 116
  | .unr _ => 117
  | .locks _ => 118
theorem rCd_ins {cl : Nat → Addr} {F : Hp} {v : V} : ∀ {c : Cd}, rCd cl F v c → ∃ p dx fs, v = .ref p ∧ F p = some (.ins (cl c.code) dx fs)
  | .any, h => rR_ins _ _ _ h
  | .both _ _, ⟨p, dx, _, _, h1, h2, _⟩ => ⟨p, dx, _, h1, h2⟩
  | .either _ _, ⟨p, dx, _, _, h1, h2, _⟩ => ⟨p, dx, _, h1, h2⟩
  | .opp _, ⟨p, dx, _, h1, h2, _⟩ => ⟨p, dx, _, h1, h2⟩
  | .holds _ _, h => rR_ins _ _ _ h
  | .only _, h => rR_ins _ _ _ h
  | .unt _, h => rR_ins _ _ _ h
  | .unr _, h => rR_ins _ _ _ h
  | .locks _, h => rR_ins _ _ _ h
instance (cl : Nat → Addr) : Nn (rCd cl) := ⟨fun h => by
  obtain ⟨_, _, _, e, _⟩ := rCd_ins h
  rw [e]; intro z; cases z⟩
section
variable {cl : Nat → Addr} {F : Hp} {v : V}
abbrev Rc2 (cl : Nat → Addr) : Rc ((Unit × Cd) × Cd) := (Rc.nil.add "first" (rCd cl)).add "second" (rCd cl)
abbrev RcOpp (cl : Nat → Addr) : Rc (Unit × Cd) := Rc.nil.add "inner" (rCd cl)
theorem r2_of {C : Addr} {a b : Cd} (h : ∃ p dx u w, v = .ref p ∧ F p = some (.ins C dx [("first", u), ("second", w)]) ∧ rCdF cl F a u ∧ rCdF cl F b w) : rR C (Rc2 cl) F v (((), a), b) := by
  obtain ⟨p, dx, u, w, h1, h2, h3, h4⟩ := h
  exact ⟨p, dx, [u, w], h1, h2, [u], w, rfl, ⟨[], u, rfl, rfl, h3⟩, h4⟩
theorem cd_any {a : Unit} (h : rR (cl 110) Rc.nil F v a) : rCd cl F v .any := h
theorem cd_opp' {a : Cd} (h : rCd cl F v (.opp a)) : rR (cl 113) (RcOpp cl) F v ((), a) := by
  obtain ⟨p, dx, u, h1, h2, h3⟩ := h
  exact ⟨p, dx, [u], h1, h2, [], u, rfl, rfl, h3⟩
theorem cd_holds {d : (Unit × List Int) × Int} (h : rR (cl 114) ((Rc.nil.add "needed" (rLst rInt)).add "least" rInt) F v d) : rCd cl F v (.holds d.1.2 d.2) := h
theorem cd_only {d : Unit × List Int} (h : rR (cl 115) (Rc.nil.add "exact" (rLst rInt)) F v d) : rCd cl F v (.only d.2) := h
theorem cd_unt {d : Unit × List Int} (h : rR (cl 116) (Rc.nil.add "listed" (rLst rInt)) F v d) : rCd cl F v (.unt d.2) := h
theorem cd_unr {d : Unit × List Int} (h : rR (cl 117) (Rc.nil.add "listed" (rLst rInt)) F v d) : rCd cl F v (.unr d.2) := h
theorem cd_locks {d : Unit × List Int} (h : rR (cl 118) (Rc.nil.add "listed" (rLst rInt)) F v d) : rCd cl F v (.locks d.2) := h
end
/-- this condition -/
def rCdAt (cl : Nat → Addr) (c : Cd) : Rp Unit := fun F v _ => rCd cl F v c
instance (cl : Nat → Addr) (c : Cd) : Mo (rCdAt cl c) := ⟨fun e h => rCdF_mo e h⟩
end LK
namespace LJ
open PySem L2 LK LKX LKB PyProof.Rows PySem.Spec
section
variable {C : Cn} {G : List LK.Slot} {m m1 : Md} {a e fe : Expr} {es : List Expr} {pos p : Pos}
/-- the same datum under another name -/
theorem xcast {α β : Type} {r : Rp α} {r' : Rp β} {f : R Er α} {g : α → β} (he : XE C e G m r f) (h : ∀ F v a, r F v a → r' F v (g a)) : XE C e G m r' (f.bind fun a => .ok (g a)) := ⟨fun F0 H0 => by
  have he := he.h F0 H0
  cases f with
  | no => trivial
  | er y => exact he
  | ok a => exact fun σ F H E Q q => he σ F H E _ fun v F' H' g' hv => q v F' H' g' (h _ _ _ hv)⟩
end
/-- what a call of the condition c is promised -/
structure CdPr (P : Program) (w : World) (K : PySem.W.Frag) (mg : Str → Option Value) (base : Heap) (T : XT) (k : Nat) (fn : Cd → Int × List Nat × Unit → R Er Bool) (c : Cd) : Prop where
  ex : ∃ g fd ps, StX.CallO K (T.cls c.code) g ∧ Binds K fd ps [] ∧ FnOk P w K mg base (L2.CX P w) k g fd ps (spR T (.cons .sh (rCdAt T.cls c) inferInstance (.cons .sh rInt inferInstance (.cons .sh rTx inferInstance .nil))) (fun a => fn c a.2) (fun b => sF rBl b))
theorem spR_cast {α β γ δ : Type} {T : XT} {r : Rp α} {r' : Rp β} {ir : Mo r} {ir' : Mo r'} {P : Pt γ} {f : β × γ → R Er δ} {g : α → β} {rs : δ → LK.Slot} (h : ∀ F v a, r F v a → r' F v (g a)) {vs : List V} {H : Hp} {Q : VK} {E : XK} (hs : spR T (.cons .sh r ir P) (fun a => f (g a.1, a.2)) rs vs H Q E) : spR T (.cons .sh r' ir' P) f rs vs H Q E := by
  obtain ⟨F, a, e, ⟨v, us, h1, h2, h3⟩, q⟩ := hs
  exact ⟨F, (g a.1, a.2), e, ⟨v, us, h1, h _ _ _ h2, h3⟩, q⟩
theorem cdPr_of {P : Program} {w : World} {K : PySem.W.Frag} {mg : Str → Option Value} {base : Heap} {T : XT} {k : Nat} {fn : Cd → Int × List Nat × Unit → R Er Bool} {c : Cd} {β : Type} {r' : Rp β} {ir' : Mo r'} {f : β × Int × List Nat × Unit → R Er Bool} {g : Addr} {fd : FuncData} {ps : List Str} (d : β) (h : ∀ F v, rCd T.cls F v c → r' F v d) (CO : StX.CallO K (T.cls c.code) g) (B : Binds K fd ps [])
    (F : FnOk P w K mg base (L2.CX P w) k g fd ps (spR T (.cons .sh r' ir' (.cons .sh rInt inferInstance (.cons .sh rTx inferInstance .nil))) f (fun b => sF rBl b))) (hf : ∀ x, fn c x = f (d, x)) : CdPr P w K mg base T k fn c :=
  ⟨g, fd, ps, CO, B, F.imp fun vs H Q E hs => spR_cast (g := fun _ => d) (fun F v _ hh => h F v hh) (by
    have : (fun a : Unit × Int × List Nat × Unit => fn c a.2) = fun a => f ((fun _ => d) a.1, a.2) := by funext a; exact hf a.2
    rw [this] at hs; exact hs)⟩
section
variable {X : Cx} {CX : CXT} {k : Nat} {E : L2.St → XK} {fe e : Expr} {es : List Expr} {tf : TE} {t : TA} {pos : Pos}
/-- f(e, ..), f an instance whose class is told behind the arguments -/
def tCallOS (X : Cx) (CX : CXT) (k : Nat) (E : L2.St → XK) (tf : TE) (t : TA) : TE := fun σ H Q => tf σ H fun y H1 => ∃ a, y = V.ref a ∧ t σ H1 fun vs H2 => ∃ C dx fs g fd ps sp, H2 a = some (.ins C dx fs) ∧ StX.CallO X.K C g ∧ Binds X.K fd ps [] ∧ FnOk X.prog X.w X.K X.mg X.base CX k g fd ps sp ∧ sp (V.ref a :: vs) H2 Q (E σ)
theorem pe_callOS (hf : PE X fe tf) (hr : Room k X.A) (hx : ∀ σ, PassesAt CX X σ (E σ)) (ha : PA X (e :: es) t)
    (ht : eval (.Call fe (e :: es) [] pos) X.env = (do callWith pos (← eval fe X.env) [] (backTo pos (starEach (e :: es) X.env)) (backToKw pos (keywordEach [] X.env))))
    (he : starEach (e :: es) X.env = (false, eval e X.env) :: starEach es X.env := by rfl) (hpl : (backTo pos (starEach es X.env)).any (·.1) = false := by rfl) : PE X (.Call fe (e :: es) [] pos) (tCallOS X CX k E tf t) := by
  refine ⟨fun pins s σ H Q I h => ?_⟩
  refine Call_ (thn (hf.run pins s σ H _ I h) fun u s1 ⟨y, H1, I1, ry, a, ey, q⟩ => ?_) ht
  subst ey
  obtain rfl : u = Value.ref a := ry
  refine StX.callO_with (thn (ha.run pos pins s1 σ H1 _ I1 q) fun us s2 ⟨vs, H2, I2, r, C, dx, fs, g, fd, ps, sp, hi, c, hb, F, q2⟩ => ?_) he hpl
  obtain ⟨ox, od, J, hd⟩ := StX.insC_at (C := C) I2 (.inr ⟨dx, fs, hi⟩)
  refine ⟨⟨C, ox, od, J, hd⟩, wpAny_call (PySem.W.kco_code I2.kIn J hd c.at_ c.fn c.fi ?_)⟩
  exact code_in (us := .ref a :: us) (vs := .ref a :: vs) F hr I2.env0 hb .nil (hx σ) I2 (.cons rfl r) (by rw [List.append_nil]; exact q2)
end
section
variable {X : Cx} {CX : CXT} {k : Nat} {E : L2.St → XK} {o e : Expr} {es : List Expr} {to : TE} {t : TA} {pos apos : Pos} {m : Str}
/-- a field by the method form -/
theorem getmeth_fld {pins : List (Addr × Obj)} {σ : L2.St} {H : Hp} {s : Shared} {a C dx : Addr} {fs : List (Str × V)} {v : V} {A : Around} {Ex : Value → Shared → Prop} {pl : Sem Bool} {Q : Value × List Value → Shared → Prop} (I : Inv X pins σ H s) (h0 : H a = some (.ins C dx fs)) (c : Cls X.K C) (n : NoAttr X.K C m) (l : fs.lookup m = some v)
    (h : ∀ u s', Inv X pins σ H s' → RelV v u → Q (u, []) s') : wpAny (model X.prog X.w) A (getMethod (.ref a) m pl) Q Ex s := by
  obtain ⟨mA, O, _⟩ := ins_get I.hok h0
  obtain ⟨od, J, _⟩ := O.look
  have hcan := PySem.F.canon_object_ga
  unfold getMethod specialOf
  refine wpAny_bind (wpAny_bind (J.type.here ((PySem.W.looks_findIn I.kIn (PySem.W.plainGet_of (c.get m)).1).here ?_)))
  dsimp only
  rw [hcan, if_neg (by decide)]
  refine wpAny_bind (wpAny_bind (J.type.here ((PySem.W.looks_findIn I.kIn (PySem.W.plainGet_of (c.get m)).2).here ?_)))
  refine wpAny_bind (wpAny_bind (J.type.here ((PySem.W.looks_findIn I.kIn n).here ?_)))
  exact wpAny_bind (getattr_ok I h0 c n l fun u s' I' ru => wpAny_pure (h u s' I' ru))
/-- o.m(e, ..), m a field that holds an instance -/
def tCallFS (X : Cx) (CX : CXT) (k : Nat) (m : Str) (E : L2.St → XK) (to : TE) (t : TA) : TE := fun σ H Q => to σ H fun x H1 => ∃ a C dx fs b, x = V.ref a ∧ H1 a = some (.ins C dx fs) ∧ Cls X.K C ∧ NoAttr X.K C m ∧ fs.lookup m = some (V.ref b) ∧
  t σ H1 fun vs H2 => ∃ C dx fs g fd ps sp, H2 b = some (.ins C dx fs) ∧ StX.CallO X.K C g ∧ Binds X.K fd ps [] ∧ FnOk X.prog X.w X.K X.mg X.base CX k g fd ps sp ∧ sp (V.ref b :: vs) H2 Q (E σ)
theorem pe_callFS {pl : Sem Bool} (ho : PE X o to) (hr : Room k X.A) (hx : ∀ σ, PassesAt CX X σ (E σ)) (ha : PA X (e :: es) t)
    (hst : starEach (e :: es) X.env = (false, eval e X.env) :: starEach es X.env := by rfl) (hpl : (backTo pos (starEach es X.env)).any (·.1) = false := by rfl)
    (ht : eval (.Call (.Attribute o m apos) (e :: es) [] pos) X.env = (do
      let ov ← eval o X.env
      standAt apos.atName
      let (f, first) ← holding [ov] (getMethod ov m pl)
      callWith pos f first (backTo pos (starEach (e :: es) X.env)) (backToKw pos (keywordEach [] X.env)))) :
    PE X (.Call (.Attribute o m apos) (e :: es) [] pos) (tCallFS X CX k m E to t) := by
  refine ⟨fun pins s σ H Q I h => ?_⟩
  refine PySem.W.methodCall_KW (pl := pl) (thn (ho.run pins s σ H _ I h) fun u s1 ⟨x, H1, I1, rx, a, C, dx, fs, b, ex, ea, c, n, l, q⟩ => ?_) ht
  subst ex
  obtain rfl : u = Value.ref a := rx
  refine getmeth_fld I1 ea c n l fun u2 s2 I2 ru => ?_
  obtain rfl : u2 = Value.ref b := ru
  refine StX.callO_with (thn (ha.run pos pins s2 σ H1 _ I2 q) fun us s3 ⟨vs, H2, I3, r, C, dx, fs, g, fd, ps, sp, hi, c, hb, F, q2⟩ => ?_) hst hpl
  obtain ⟨ox, od, J, hd⟩ := StX.insC_at (C := C) I3 (.inr ⟨dx, fs, hi⟩)
  refine ⟨⟨C, ox, od, J, hd⟩, wpAny_call (PySem.W.kco_code I3.kIn J hd c.at_ c.fn c.fi ?_)⟩
  exact code_in (us := .ref b :: us) (vs := .ref b :: vs) F hr I3.env0 hb .nil (hx σ) I3 (.cons rfl r) (by rw [List.append_nil]; exact q2)
end
section
variable {C : Cn} {G : List LK.Slot} {m m1 m2 : Md} {a b fe : Expr} {pos : Pos}
/-- c(i, s), c a condition -/
theorem xcallCd {fn : Cd → Int × List Nat × Unit → R Er Bool} {f : R Er Cd} {g : R Er (Int × List Nat × Unit)} {k n : Nat} (HC : ∀ c, CdPr C.X.prog C.X.w C.X.K C.X.mg C.X.base C.T k fn c) (hr : Room n C.X.A) (hf : XE C fe G .sh (rCd C.T.cls) f)
    (ha : XA C [a, b] G (.cons .sh rInt inferInstance (.cons .sh rTx inferInstance .nil)) g) (hk : k ≤ n := by first | decide | exact Nat.le_refl _)
    (ht : eval (.Call fe [a, b] [] pos) C.X.env = (do callWith pos (← eval fe C.X.env) [] (backTo pos (starEach [a, b] C.X.env)) (backToKw pos (keywordEach [] C.X.env))) := by rfl)
    (he : starEach [a, b] C.X.env = (false, eval a C.X.env) :: starEach [b] C.X.env := by exact star_cons rfl) (hpl : (backTo pos (starEach [b] C.X.env)).any (·.1) = false := by rfl) :
    XN C (.Call fe [a, b] [] pos) G (fun x => sF rBl x) (f.bind fun c => g.bind fun y => fn c y) := ⟨fun F0 H0 => by
  have hf := hf.h F0 H0; have ha := ha.h F0 H0
  refine Ds.le (t := tCallOS C.X (L2.CX C.X.prog C.X.w) k (WE C.W) (tE C.X fe) (tA C.X [a, b])) ?_ fun _ _ _ q => tE_le (pe_callOS pE (hr.mono hk) (fun σ => passAt C.tk σ) pA ht he hpl) q
  cases f with
  | no => trivial
  | er y => exact fun σ F H E w Q => hf σ F H E w _
  | ok c =>
    obtain ⟨gg, fd, ps, CO, B, Fo⟩ := HC c
    cases g with
    | no => trivial
    | er y =>
      exact fun σ F H E w Q => hf σ F H E _ fun v F1 H1 g1 k1 => by
        obtain ⟨p, dx, fs, e1, e2⟩ := rCd_ins k1
        exact ⟨p, e1, ha σ F1 H1 (E.gro g1) (fun F' H' cls d g z => w F' H' cls d (g1.trans g) z) _⟩
    | ok y0 =>
      show Ds C F0 H0 _ G _ (fn c y0)
      have key : ∀ {v : V} {us : List V} {F1 H1 F2 H2 : Hp}, Gr F0 H0 F1 H1 → Gr F1 H1 F2 H2 → rCd C.T.cls F1 v c → (Pt.cons .sh rInt inferInstance (.cons .sh rTx inferInstance .nil) : Pt _).ra F2 H0 H2 us y0 → (Pt.cons .sh (rCdAt C.T.cls c) inferInstance (.cons .sh rInt inferInstance (.cons .sh rTx inferInstance .nil)) : Pt _).ra F2 H2 H2 (v :: us) ((), y0) := fun g0 g2 k1 k2 =>
        Pt.now (Pt.cons .sh (rCdAt C.T.cls c) inferInstance (.cons .sh rInt inferInstance (.cons .sh rTx inferInstance .nil))) (g0.trans g2) ⟨_, _, rfl, mox (r := rCd C.T.cls) g2.ff k1, k2⟩
      cases hf' : fn c y0 with
      | no => trivial
      | er y =>
        exact fun σ F H E w Q => hf σ F H E _ fun v F1 H1 g1 k1 => by
          obtain ⟨p, dx, fs, e1, e2⟩ := rCd_ins k1
          subst e1
          exact ⟨p, rfl, ha σ F1 H1 (E.gro g1) _ fun us F2 H2 g2 k2 => ⟨_, dx, fs, gg, fd, ps, _, g2.fh _ _ (g2.ff _ _ e2), CO, B, Fo, spR_at (E.gr.trans (g1.trans g2)) (key (E.gr.trans g1) g2 k1 k2) (by show fn c y0 ≠ _; rw [hf']; exact fun z => nomatch z) (fun b hb => by
            have hb : fn c y0 = .ok b := hb
            rw [hf'] at hb; cases hb) fun er he cls d F3 H3 g3 r => by
              have he : fn c y0 = .er er := he
              rw [hf'] at he; cases he
              exact w F3 H3 cls d ((g1.trans g2).trans g3) r⟩⟩
      | ok b0 =>
        exact fun σ F H E Q q => hf σ F H E _ fun v F1 H1 g1 k1 => by
          obtain ⟨p, dx, fs, e1, e2⟩ := rCd_ins k1
          subst e1
          exact ⟨p, rfl, ha σ F1 H1 (E.gro g1) _ fun us F2 H2 g2 k2 => ⟨_, dx, fs, gg, fd, ps, _, g2.fh _ _ (g2.ff _ _ e2), CO, B, Fo, spR_at (E.gr.trans (g1.trans g2)) (key (E.gr.trans g1) g2 k1 k2) (by show fn c y0 ≠ _; rw [hf']; exact fun z => nomatch z) (fun b hb v F3 H3 E3 => by
            have hb : fn c y0 = .ok b := hb
            rw [hf'] at hb; cases hb
            exact q v F3 H3 ((g1.trans g2).trans E3.gr) (envRebase (g1.trans g2) E3 trivial)) fun er he => by
              have he : fn c y0 = .er er := he
              rw [hf'] at he; cases he⟩⟩⟩
/-- o.f(i, s), o.f a condition -/
theorem xcallCdF {α : Type} {fn : Cd → Int × List Nat × Unit → R Er Bool} {o : Expr} {mn : Str} {apos : Pos} {C0 : Addr} {Rw : Rc α} {pj : α → Cd} {f : R Er α} {g : R Er (Int × List Nat × Unit)} {k n : Nat} {pl : Sem Bool} (HC : ∀ c, CdPr C.X.prog C.X.w C.X.K C.X.mg C.X.base C.T k fn c) (hr : Room n C.X.A) (ho : XE C o G .sh (rR C0 Rw) f) (fdv : Fd Rw mn (rCd C.T.cls) pj) (cl : Cls C.X.K C0) (na : NoAttr C.X.K C0 mn)
    (ha : XA C [a, b] G (.cons .sh rInt inferInstance (.cons .sh rTx inferInstance .nil)) g) (hk : k ≤ n := by first | decide | exact Nat.le_refl _)
    (he : starEach [a, b] C.X.env = (false, eval a C.X.env) :: starEach [b] C.X.env := by exact star_cons rfl) (hpl : (backTo pos (starEach [b] C.X.env)).any (·.1) = false := by rfl)
    (ht : eval (.Call (.Attribute o mn apos) [a, b] [] pos) C.X.env = (do
      let ov ← eval o C.X.env
      standAt apos.atName
      let (f, first) ← holding [ov] (getMethod ov mn pl)
      callWith pos f first (backTo pos (starEach [a, b] C.X.env)) (backToKw pos (keywordEach [] C.X.env))) := by rfl) :
    XN C (.Call (.Attribute o mn apos) [a, b] [] pos) G (fun x => sF rBl x) (f.bind fun c => g.bind fun y => fn (pj c) y) := ⟨fun F0 H0 => by
  have ho := ho.h F0 H0; have ha := ha.h F0 H0
  refine Ds.le (t := tCallFS C.X (L2.CX C.X.prog C.X.w) k mn (WE C.W) (tE C.X o) (tA C.X [a, b])) ?_ fun _ _ _ q => tE_le (pe_callFS pE (hr.mono hk) (fun σ => passAt C.tk σ) pA he hpl ht) q
  cases f with
  | no => trivial
  | er y => exact fun σ F H E w Q => ho σ F H E w _
  | ok x =>
    obtain ⟨gg, fd, ps, CO, B, Fo⟩ := HC (pj x)
    have look : ∀ {F : Hp} {v : V}, rR C0 Rw F v x → ∃ p dx fs q dx' fs', v = .ref p ∧ F p = some (.ins C0 dx fs) ∧ fs.lookup mn = some (.ref q) ∧ rCd C.T.cls F (.ref q) (pj x) ∧ F q = some (.ins (C.T.cls (pj x).code) dx' fs') := fun {F v} hv => by
      obtain ⟨p, dx, us, e1, h2, h3⟩ := hv
      obtain ⟨u, hl, hu⟩ := fdv.at_ _ _ _ h3
      obtain ⟨q, dx', fs', e4, e5⟩ := rCd_ins hu
      subst e4
      exact ⟨p, dx, _, q, dx', fs', e1, h2, hl, hu, e5⟩
    cases g with
    | no => trivial
    | er y =>
      exact fun σ F H E w Q => ho σ F H E _ fun v F1 H1 g1 k1 => by
        obtain ⟨p, dx, fs, q, dx', fs', e1, h2, hl, hu, e5⟩ := look k1
        exact ⟨p, C0, dx, fs, q, e1, g1.fh _ _ h2, cl, na, hl, ha σ F1 H1 (E.gro g1) (fun F' H' cls d g z => w F' H' cls d (g1.trans g) z) _⟩
    | ok y0 =>
      show Ds C F0 H0 _ G _ (fn (pj x) y0)
      have key : ∀ {v : V} {us : List V} {F1 H1 F2 H2 : Hp}, Gr F0 H0 F1 H1 → Gr F1 H1 F2 H2 → rCd C.T.cls F1 v (pj x) → (Pt.cons .sh rInt inferInstance (.cons .sh rTx inferInstance .nil) : Pt _).ra F2 H0 H2 us y0 → (Pt.cons .sh (rCdAt C.T.cls (pj x)) inferInstance (.cons .sh rInt inferInstance (.cons .sh rTx inferInstance .nil)) : Pt _).ra F2 H2 H2 (v :: us) ((), y0) := fun g0 g2 k1 k2 =>
        Pt.now (Pt.cons .sh (rCdAt C.T.cls (pj x)) inferInstance (.cons .sh rInt inferInstance (.cons .sh rTx inferInstance .nil))) (g0.trans g2) ⟨_, _, rfl, mox (r := rCd C.T.cls) g2.ff k1, k2⟩
      cases hf' : fn (pj x) y0 with
      | no => trivial
      | er y =>
        exact fun σ F H E w Q => ho σ F H E _ fun v F1 H1 g1 k1 => by
          obtain ⟨p, dx, fs, q, dx', fs', e1, h2, hl, hu, e5⟩ := look k1
          exact ⟨p, C0, dx, fs, q, e1, g1.fh _ _ h2, cl, na, hl, ha σ F1 H1 (E.gro g1) _ fun us F2 H2 g2 k2 => ⟨_, dx', fs', gg, fd, ps, _, g2.fh _ _ (g2.ff _ _ e5), CO, B, Fo, spR_at (E.gr.trans (g1.trans g2)) (key (E.gr.trans g1) g2 hu k2) (by show fn (pj x) y0 ≠ _; rw [hf']; exact fun z => nomatch z) (fun b hb => by
            have hb : fn (pj x) y0 = .ok b := hb
            rw [hf'] at hb; cases hb) fun er he cls d F3 H3 g3 r => by
              have he : fn (pj x) y0 = .er er := he
              rw [hf'] at he; cases he
              exact w F3 H3 cls d ((g1.trans g2).trans g3) r⟩⟩
      | ok b0 =>
        exact fun σ F H E Q qq => ho σ F H E _ fun v F1 H1 g1 k1 => by
          obtain ⟨p, dx, fs, q, dx', fs', e1, h2, hl, hu, e5⟩ := look k1
          exact ⟨p, C0, dx, fs, q, e1, g1.fh _ _ h2, cl, na, hl, ha σ F1 H1 (E.gro g1) _ fun us F2 H2 g2 k2 => ⟨_, dx', fs', gg, fd, ps, _, g2.fh _ _ (g2.ff _ _ e5), CO, B, Fo, spR_at (E.gr.trans (g1.trans g2)) (key (E.gr.trans g1) g2 hu k2) (by show fn (pj x) y0 ≠ _; rw [hf']; exact fun z => nomatch z) (fun b hb v F3 H3 E3 => by
            have hb : fn (pj x) y0 = .ok b := hb
            rw [hf'] at hb; cases hb
            exact qq v F3 H3 ((g1.trans g2).trans E3.gr) (envRebase (g1.trans g2) E3 trivial)) fun er he => by
              have he : fn (pj x) y0 = .er er := he
              rw [hf'] at he; cases he⟩⟩⟩
end
end LJ
set_option Elab.async false
set_option linter.all false
set_option maxRecDepth 100000
set_option maxHeartbeats 4000000
set_option autoImplicit false
namespace LKB
open PySem L2 PyProof.Rows PySem.Spec
abbrev SpA := List V → List V → Hp → VK → XK → Prop
/-- a def's promise where it is called with any number of positional arguments and these keywords -/
def FnA (P : Program) (w : World) (K : PySem.W.Frag) (mg : Str → Option Value) (base : Heap) (CX : CXT) (k : Nat) (f : Addr) (ks : List Str) (sp : SpA) : Prop :=
  ∀ (A : Around) (outer : List Env) (s : Shared) (H : Hp) (us ws : List Value) (vs zs : List V) (Q : VK) (E : XK), Room k A → Env0 P w K mg base A outer s H → Vals vs us → Vals zs ws → zs.length = ks.length → sp vs zs H Q E →
    codeAny (model P w) A (.call (.ref f) ⟨us, ks.zip ws⟩) (CR CX outer P w H s Q E) s
/-- what such a call binds: the first one, the keyword-only ones (dvs their defaults, where they are not given), a tuple of all others -/
structure BndA (K : PySem.W.Frag) (fd : FuncData) (p0 : Str) (kn : List Str) (pv : Str) (ks : List Str) (dvs : List V) : Prop where
  ex : ∃ ds : List Value, Vals dvs ds ∧ ks.length + ds.length = kn.length ∧ ∀ (P : Program) (w : World) (A : Around) (Ex : Value → Shared → Prop) (Q : List (Str × Value) → Shared → Prop) (s : Shared) (a : Value) (rest ws : List Value), K.In s.heap → ws.length = ks.length →
    wpAny (model P w) A (newTuple rest >>= fun t => pure ((p0, a) :: (kn.zip (ws ++ ds) ++ [(pv, t)]))) Q Ex s → wpAny (model P w) A (bindArgs fd ⟨a :: rest, ks.zip ws⟩) Q Ex s
theorem bndA_0 {K : PySem.W.Frag} {fd : FuncData} {p0 pv : Str} (h0 : ∀ a, bindArgs fd ⟨[a], []⟩ = (newTuple [] >>= fun t => pure [(p0, a), (pv, t)])) (h1 : ∀ a r rs, bindArgs fd ⟨a :: r :: rs, []⟩ = (newTuple (r :: rs) >>= fun t => pure [(p0, a), (pv, t)])) : BndA K fd p0 [] pv [] [] :=
  ⟨[], .nil, rfl, fun P w A Ex Q s a rest ws _ _ h => by
    cases rest with
    | nil => exact (h0 a).symm ▸ h
    | cons r rs => exact (h1 a r rs).symm ▸ h⟩
theorem bndA_1 {K : PySem.W.Frag} {fd : FuncData} {p0 k1 pv : Str} (h0 : ∀ a x, bindArgs fd ⟨[a], [(k1, x)]⟩ = (newTuple [] >>= fun t => pure [(p0, a), (k1, x), (pv, t)])) (h1 : ∀ a x r rs, bindArgs fd ⟨a :: r :: rs, [(k1, x)]⟩ = (newTuple (r :: rs) >>= fun t => pure [(p0, a), (k1, x), (pv, t)])) : BndA K fd p0 [k1] pv [k1] [] :=
  ⟨[], .nil, rfl, fun P w A Ex Q s a rest ws _ hl h => by
    match ws, hl with
    | [x], _ =>
      cases rest with
      | nil => exact (h0 a x).symm ▸ h
      | cons r rs => exact (h1 a x r rs).symm ▸ h⟩
/-- the keyword is not given: its default stands in the dict at D -/
theorem bndA_d {K : PySem.W.Frag} {fd : FuncData} {p0 k1 pv : Str} {D : Addr} {dv : V} {d : Value} (hv : RelV dv d) (hd : PySem.W.nsIn K D k1 = some (some d))
    (h0 : ∀ a, ∃ (β γ : Type) (k2 : Option Value → Sem β) (k3 : β → Sem γ) (k4 : γ → Sem (List (Str × Value))) (b : β), bindArgs fd ⟨[a], []⟩ = ((nsGet D k1 >>= k2) >>= k3) >>= k4 ∧ k2 (some d) = pure b ∧ (k3 b >>= k4) = (newTuple [] >>= fun t => pure [(p0, a), (k1, d), (pv, t)]))
    (h1 : ∀ a r rs, ∃ (β γ : Type) (k2 : Option Value → Sem β) (k3 : β → Sem γ) (k4 : γ → Sem (List (Str × Value))) (b : β), bindArgs fd ⟨a :: r :: rs, []⟩ = ((nsGet D k1 >>= k2) >>= k3) >>= k4 ∧ k2 (some d) = pure b ∧ (k3 b >>= k4) = (newTuple (r :: rs) >>= fun t => pure [(p0, a), (k1, d), (pv, t)])) : BndA K fd p0 [k1] pv [] [dv] :=
  ⟨[d], .cons hv .nil, rfl, fun P w A Ex Q s a rest ws X hl h => by
    have hw : ws = [] := List.length_eq_zero_iff.mp hl
    subst hw
    have go : ∀ {x : List (Str × Value) → Shared → Prop} {t : Sem (List (Str × Value))} {r : Sem (List (Str × Value))}, (∃ (β γ : Type) (k2 : Option Value → Sem β) (k3 : β → Sem γ) (k4 : γ → Sem (List (Str × Value))) (b : β), t = ((nsGet D k1 >>= k2) >>= k3) >>= k4 ∧ k2 (some d) = pure b ∧ (k3 b >>= k4) = r) → wpAny (model P w) A r x Ex s → wpAny (model P w) A t x Ex s := by
      rintro x t r ⟨β, γ, k2, k3, k4, b, e1, e2, e3⟩ hr
      have l1 : PySem.W.Looks (model P w) s.heap (nsGet D k1 >>= k2) b := (PySem.W.looks_nsIn X hd).andThen (PySem.W.Looks.of_pure e2)
      rw [e1, bind_assoc]
      rw [← e3] at hr
      exact wpAny_bind (l1.here hr)
    cases rest with
    | nil => exact go (h0 a) h
    | cons r rs => exact go (h1 a r rs) h⟩
section
variable {CX : CXT} {P : Program} {w : World} {K : PySem.W.Frag} {mg : Str → Option Value} {base : Heap} {k : Nat} {f : Addr} {name qual : Str} {params : Arguments} {body : List Stmt} {scope : Scope} {dV kV doc pm cdv ct oc : Value} {an od : Option Addr}
  {osl : Array (Option Value)} {N kn ks : List Str} {p0 pv : Str} {sp : Sp} {dvs : List V}
def spA (sp : Sp) (dvs : List V) : SpA := fun vs zs H Q E => ∃ x rest, vs = x :: rest ∧ rest.length ≤ sizeLine ∧ ∀ p, H p = none → sp (x :: (zs ++ dvs ++ [V.ref p])) (upd H p (.tup rest)) Q E
theorem fnA_star (lk : K.lookup f = some ⟨oc, od, .func (PySem.W.fnOf name qual params body scope dV kV doc pm an cdv ct), osl⟩) (hcd : PySem.W.codeIn K cdv qual = true) (S : FnScope N (p0 :: (kn ++ [pv])) scope) (hCX : StX.CXUp CX)
    (hb : BndA K (PySem.W.fnOf name qual params body scope dV kV doc pm an cdv ct) p0 kn pv ks dvs)
    (hbody : ∀ (A : Around) (outer : List Env) (s : Shared) (H : Hp) (vs : List V) (Q : VK) (E : XK), Room k (A.deeper (envOfC qual scope s.heap.objs.size f cdv)) → sp vs H Q E →
      ∃ t, PSs (cxOf CX P w K mg base N qual scope f cdv A outer s H E) body t ∧ t { nx := fun _ H' => Q .non H', rt := Q } (start N vs) H) : FnA P w K mg base CX (k + 1) f ks (spA sp dvs) := by
  intro A outer s H us ws vs zs Q E hr e0 r rz hz hsp
  obtain ⟨x, rest, ev, hl, hq⟩ := hsp
  subst ev
  obtain ⟨ds, rd, hds, hbind⟩ := hb.ex
  cases r with
  | @cons _ u _ us' r1 r2 =>
    have hn : H s.heap.objs.size = none := e0.hok.fresh (Nat.le_refl _)
    have hl2 : us'.length ≤ sizeLine := by rw [← r2.length]; exact hl
    have KX : K.In s.heap := e0.mod.kin.keeps fun b o e => (e0.bs b o e).1
    have hws : ws.length = ks.length := rz.length.symm.trans hz
    refine StX.run_bnd lk hcd S hr e0 (G := fun xs H2 => ∃ p, H p = none ∧ xs = x :: (zs ++ dvs ++ [V.ref p]) ∧ H2 = upd H p (.tup rest)) (fun A' Ex Q' h => ?_) fun s2 H2 xs ⟨p, hp, ex, eH⟩ hr' => ?_
    · refine hbind P w A' Ex Q' s u us' ws KX hws ?_
      refine wpAny_bind (wpAny_newTuple (wpAny_pure ?_) hl2)
      have new : ObjOk P w (upd H s.heap.objs.size (.tup rest)) (s.heap.push ({ cls := .type "tuple", data := .seq us'.toArray } : Obj)) s.heap.objs.size (.tup rest) := ⟨hl, us', r2, ⟨_, Heap.get?_push_size _ rfl, rfl, _, rfl⟩⟩
      have un := StX.un_laid (fs := frs outer) (s := s) (o := ({ cls := .type "tuple", data := .seq us'.toArray } : Obj)) (u := .tup rest) hn
      have hlen : (zs ++ dvs).length = kn.length := by rw [List.length_append, hz, rd.length]; exact hds
      have z := h _ _ (x :: (zs ++ dvs ++ [V.ref s.heap.objs.size])) (u :: (ws ++ ds ++ [Value.ref s.heap.objs.size])) (StX.env0_laid e0 new) un rfl (fun e s' => hCX outer s H _ _ E e s' un (fun b o q => Heap.get?_push_of_some _ q) rfl) (.cons r1 ((rz.append rd).append (.cons rfl .nil)))
        (by simp only [List.length_cons, List.length_append, List.length_nil] at hlen ⊢; omega) ⟨_, hn, rfl, rfl⟩
      have hlen2 : kn.length = (ws ++ ds).length := by rw [List.length_append, hws]; exact hds.symm
      rw [List.zip_cons_cons, List.zip_append hlen2] at z
      exact z
    · subst ex eH
      exact hbody A outer s2 _ _ Q E hr' (hq p hp)
end
section
variable {X : Cx} {CX : CXT} {k : Nat} {f C : Addr} {ks : List Str} {sp : SpA} {E : L2.St → XK} {x : Str} {p0 pos : Pos} {e : Expr} {es : List Expr} {kws : List Keyword} {t tk : TA}
def tMakeA (C : Addr) (sp : SpA) (m : Nat) (E : L2.St → XK) (t tk : TA) : TE := fun σ H Q => t σ H fun vs H1 => tk σ H1 fun zs H2 => zs.length = m ∧ ∀ x dx, H2 x = none → H2 dx = none → dx ≠ x →
  sp (.ref x :: vs) zs (upd (upd H2 dx (.own x)) x (.ins C dx [])) (fun v H3 => v = .non ∧ Q (.ref x) H3) (E σ)
theorem run_makeA {pins : List (Addr × Obj)} {σ : L2.St} {H : Hp} {s : Shared} {Q : VK} {us ws : List Value} {vs zs : List V} (M : Mk X.K C f) (F : FnA X.prog X.w X.K X.mg X.base CX k f ks sp) (hr : Room (k + 1) X.A) (hx : PassesAt CX X σ (E σ)) (I : Inv X pins σ H s) (r : Vals vs us) (rz : Vals zs ws) (l2 : zs.length = ks.length)
    (h : ∀ x dx, H x = none → H dx = none → dx ≠ x → sp (.ref x :: vs) zs (upd (upd H dx (.own x)) x (.ins C dx [])) (fun v H2 => v = .non ∧ Q (.ref x) H2) (E σ)) :
    wpAny (model X.prog X.w) X.A (call (.ref C) us (ks.zip ws)) (EP X pins σ Q) X.xe s := by
  have hq := h (s.heap.objs.size + 1) s.heap.objs.size (I.hok.fresh (Nat.le_succ _)) (I.hok.fresh (Nat.le_refl _)) (Nat.ne_of_lt (Nat.lt_succ_self _))
  have I2 := Inv.made (C := C) I
  have r1 : Vals (V.ref (s.heap.objs.size + 1) :: vs) (Value.ref (s.heap.objs.size + 1) :: us) := .cons rfl r
  refine wpAny_call (make_map (f := f) I.kIn M.makes M.init (beq_iff_eq.mp M.fn) (codeAny_mono (F _ X.stack _ _ (Value.ref (s.heap.objs.size + 1) :: us) ws _ zs _ (E σ) (hr.make C us (ks.zip ws)) (I2.env0.make C us (ks.zip ws)) r1 rz l2 hq) fun r s' hq' => ?_))
  cases r with
  | error e => exact hx pins _ _ e s' I2 hq'
  | ok fl =>
    cases fl with
    | ret u =>
      obtain ⟨v, H', I3, rv, ev, q3⟩ := I2.after hq'
      subst ev
      exact ⟨rv, ⟨V.ref (s.heap.objs.size + 1), H', I3, rfl, q3⟩⟩
    | next => exact False.elim hq'
    | brk => exact False.elim hq'
    | cont => exact False.elim hq'
section
variable (M : Mk X.K C f) (F : FnA X.prog X.w X.K X.mg X.base CX k f ks sp) (hr : Room (k + 1) X.A) (hg : Gl X x) (hm : X.mg x = some (.ref C)) (hx : ∀ σ, PassesAt CX X σ (E σ))
include M F hr hg hm hx
/-- C(e, ..) -/
theorem pe_makeA (hk0 : ks = []) (ha : PA X (e :: es) t) (hdb : (x == ("__debug__" : Str)) = false := by decide) (he : starEach (e :: es) X.env = (false, eval e X.env) :: starEach es X.env := by rfl) (hpl : (backTo pos (starEach es X.env)).any (·.1) = false := by rfl) :
    PE X (.Call (.Name x p0) (e :: es) [] pos) (tMakeA C sp 0 E t tNil) := by
  subst hk0
  refine ⟨fun pins s σ H Q I h => ?_⟩
  refine wpAny_Call_Name_kw (ld_glob I hg hm ?_ hdb)
  refine PySem.W.callWith_K (h₀ := X.base) I.ok.mod.kin M.kp (thn (ha.run pos pins s σ H _ I h) fun us s1 ⟨vs, H1, I1, r, q⟩ => ⟨I1.kIn, ?_⟩) he hpl
  exact run_makeA (ws := []) (zs := []) M F hr (hx σ) I1 r .nil rfl q.2
/-- C() -/
theorem pe_makeA0 (hk0 : ks = []) (hdb : (x == ("__debug__" : Str)) = false := by decide) : PE X (.Call (.Name x p0) [] [] pos) (tMakeA C sp 0 E tNil tNil) := by
  subst hk0
  refine ⟨fun pins s σ H Q I h => ?_⟩
  refine wpAny_Call_Name_kw (ld_glob I hg hm ?_ hdb)
  exact PySem.W.callWith_K0 I.kIn M.kp (run_makeA (us := []) (vs := []) (ws := []) (zs := []) M F hr (hx σ) I .nil .nil rfl h.2)
/-- C(e, .., k = v) -/
theorem pe_makeAK (ha : PA X (e :: es) t) (hkw : PK X kws tk) (hall : (backToKw pos (keywordEach kws X.env)).all (·.1.isSome) = true := by rfl) (hks : (backToKw pos (keywordEach kws X.env)).filterMap (·.1) = ks := by rfl) (hdb : (x == ("__debug__" : Str)) = false := by decide)
    (he : starEach (e :: es) X.env = (false, eval e X.env) :: starEach es X.env := by rfl) (hpl : ((backTo pos (starEach (e :: es) X.env)).any (·.1) || (backToKw pos (keywordEach kws X.env)).any (·.1.isNone)) = false := by rfl) :
    PE X (.Call (.Name x p0) (e :: es) kws pos) (tMakeA C sp ks.length E t tk) := by
  refine ⟨fun pins s σ H Q I h => ?_⟩
  refine wpAny_Call_Name_kw (ld_glob I hg hm ?_ hdb)
  refine PySem.W.callWith_KW (h₀ := X.base) I.ok.mod.kin M.kp hall (thn (ha.run pos pins s σ H _ I h) fun us s1 ⟨vs, H1, I1, r, q⟩ => ?_) hpl he
  refine thn (hkw.run pos pins s1 σ H1 _ I1 q) fun ws s2 ⟨zs, H2, I2, rz, l2, q2⟩ => ⟨I2.kIn, ?_⟩
  rw [hks]
  exact run_makeA M F hr (hx σ) I2 r rz l2 q2
/-- C(k = v) -/
theorem pe_makeAK0 (hkw : PK X kws tk) (hall : (backToKw pos (keywordEach kws X.env)).all (·.1.isSome) = true := by rfl) (hks : (backToKw pos (keywordEach kws X.env)).filterMap (·.1) = ks := by rfl) (hdb : (x == ("__debug__" : Str)) = false := by decide)
    (hpl : ((backTo pos (starEach [] X.env)).any (·.1) || (backToKw pos (keywordEach kws X.env)).any (·.1.isNone)) = false := by rfl) :
    PE X (.Call (.Name x p0) [] kws pos) (tMakeA C sp ks.length E tNil tk) := by
  refine ⟨fun pins s σ H Q I h => ?_⟩
  refine wpAny_Call_Name_kw (ld_glob I hg hm ?_ hdb)
  refine PySem.W.callWith_KW0 (h₀ := X.base) I.ok.mod.kin M.kp hall ?_ hpl
  refine thn (hkw.run pos pins s σ H _ I h) fun ws s2 ⟨zs, H2, I2, rz, l2, q2⟩ => ⟨I2.kIn, ?_⟩
  rw [hks]
  exact run_makeA (us := []) (vs := []) M F hr (hx σ) I2 .nil rz l2 q2
end
/-- C() where there is no __init__ but object's -/
def tMake0 (C : Addr) : TE := fun σ H Q => ∀ x dx, H x = none → H dx = none → dx ≠ x → Q (.ref x) (upd (upd H dx (.own x)) x (.ins C dx []))
theorem pe_make00 (hm : PySem.W.makesIn X.K C = true) (hi : PySem.W.findIn X.K (.ref C) "__init__" = some (some (.builtin "object.__init__"))) (hk : PySem.W.keepIn X.K (.ref C) = true) (hg : Gl X x) (hmg : X.mg x = some (.ref C)) (hdb : (x == ("__debug__" : Str)) = false := by decide) :
    PE X (.Call (.Name x p0) [] [] pos) (tMake0 C) := by
  refine ⟨fun pins s σ H Q I h => ?_⟩
  refine wpAny_Call_Name_kw (ld_glob I hg hmg ?_ hdb)
  refine PySem.W.callWith_K0 I.kIn hk (wpAny_call (make_map0 I.kIn hm hi (fun self => PySem.W.Looks.of_pure (PySem.W.oi_bind self)) ?_))
  have Y := PySem.W.makes_of (M := model X.prog X.w) I.kIn hm
  have hq := h (s.heap.objs.size + 1) s.heap.objs.size (I.hok.fresh (Nat.le_succ _)) (I.hok.fresh (Nat.le_refl _)) (Nat.ne_of_lt (Nat.lt_succ_self _))
  have I2 := Inv.made (C := C) I
  have hx : ((s.heap.push PySem.W.emptyDict).push (PySem.W.instObj C s.heap.objs.size)).get? (s.heap.objs.size + 1) = some (PySem.W.instObj C s.heap.objs.size) := by
    have := Heap.get?_push_size (s.heap.push PySem.W.emptyDict) (o := PySem.W.instObj C s.heap.objs.size) rfl
    rwa [Heap.size_push] at this
  have t1 : PySem.W.Looks (model X.prog X.w) ((s.heap.push PySem.W.emptyDict).push (PySem.W.instObj C s.heap.objs.size)) (typeOf (.ref (s.heap.objs.size + 1))) (.ref C) := (PySem.W.Looks.ld hx).andThen .now
  have t2 : PySem.W.Looks (model X.prog X.w) ((s.heap.push PySem.W.emptyDict).push (PySem.W.instObj C s.heap.objs.size)) (isInstance (.ref (s.heap.objs.size + 1)) (.type "object")) true := t1.andThen (Y.top.keeps fun b o e => Heap.get?_push_of_some _ (Heap.get?_push_of_some _ e))
  refine codeAny_call_builtin PySem.W.oi_plain PySem.W.entry_oi (@PySem.W.check_slot (model X.prog X.w) _ _ { s with heap := (s.heap.push PySem.W.emptyDict).push (PySem.W.instObj C s.heap.objs.size) } "object.__init__" "object" "__init__" (.ref (s.heap.objs.size + 1)) [] [] _ PySem.W.oi_kind PySem.W.oi_split t2 (PySem.W.oi_args (.ref (s.heap.objs.size + 1))) ?_)
  rw [PySem.W.oi_run]
  exact wpAny_pure (And.intro rfl (show EP X pins σ Q (Value.ref (s.heap.objs.size + 1)) _ from ⟨V.ref (s.heap.objs.size + 1), _, I2, rfl, hq⟩))
end
end LKB
namespace LJ
open PySem L2 LK LKX LKB PyProof.Rows PySem.Spec
section
variable {P : Program} {w : World} {K : PySem.W.Frag} {mg : Str → Option Value} {base : Heap}
theorem ok_MA {γ δ ζ α S' : Type} {X : XT} {su : Option Addr → γ → Mu} [pn : Pin su] {T : Pt α} {f : γ → α → R (Er × ζ) δ} {sv : Option Addr → δ → LK.Slot} {se : Option Addr → ζ → LK.Slot} {x qual : Str} {st : Stmt} {fa : Addr} {fd : FuncData} {y pv : Str} {N kn ks : List Str} {dvs : List V} {k : Nat} (c : Nat) (Fn : Fun K x qual st fa fd) (S : FnScope (y :: N) (y :: (kn ++ [pv])) (defScope st)) (hc : N.length = T.count + c)
    (hb : BndA K fd y kn pv ks dvs) (kend : S' → R (Er × ζ) δ) (hend2 : ∀ s e, kend s ≠ .er e)
    (hbody : ∀ (cdv : Value) (A : Around) (outer : List Env) (s : Shared) (H : Hp) (E : XK) (hr : Room k (A.deeper (envOfC qual (defScope st) s.heap.objs.size fa cdv))) (p : Addr) (g : γ) (a : α),
      ∃ (slk : S' → List LK.Slot) (M : (S' → R (Er × ζ) δ) → R (Er × ζ) δ), XB (cnD P w K mg base (y :: N) S.nd qual (defScope st) fa cdv A outer s H E X) (jnM N.length (se (some p))) (defBody st) (.ow (su (some p) g) (pn.mo _ _) :: (T.slots a ++ List.replicate c .no)) slk M ∧ M kend = f g a ∧ (∀ s d, kend s = .ok d → Lw (slk s) (sv (some p) d :: List.replicate N.length .no))) :
    FnA P w K mg base (L2.CX P w) (k + 1) fa ks (spA (spM X su T f sv se) dvs) := by
  obtain ⟨oc, od, kV, doc, pm, an, cdv, ct, osl, rfl, look, code⟩ := Fn.ex
  refine fnA_star look code S StX.cxUp hb fun A outer s H vs Q E hr h => ?_
  obtain ⟨F, p, Sf, g, a, ws, ev, e, hm, hS, ha, hno, q1, q2⟩ := h
  subst ev
  obtain ⟨slk, M, hB, hM, hsl⟩ := hbody cdv A outer s H E hr p g a
  have hl : ws.length = T.count := T.length ha
  have unc : ∀ {s0 : LK.Slot} {n : Nat} {σ : L2.St} {F' H' : Hp}, EnvOk F (cut Sf H) (s0 :: List.replicate n .no) σ F' H' → ∃ x, EnvOk F (cut Sf H) [s0] [x] F' H' := fun {s0 n σ F' H'} EE => by
    cases σ with
    | nil => have := EE.len; simp at this
    | cons x σ => exact ⟨x, EE.head⟩
  refine ⟨_, pS, hB.h F (cut Sf H) (fun r => r = f g a) _ ⟨fun h => hno h.symm, fun b => b.elim, fun er z h σ F' H' cls d EE r => ?_⟩ kend (fun s' hs σ F' H' EE => ?_) hM _ F H (entryM (im := pn.mo _ _) e (pn.to hm) hS ha c hc)⟩
  · obtain ⟨x, E1⟩ := unc EE
    exact q2 er z h.symm cls d x F' H' E1 r
  · cases hk : kend s' with
    | ok d =>
      obtain ⟨x, E1⟩ := unc (EE.weak (hsl s' d hk))
      exact q1 d (by rw [← hs, hk]) x F' H' E1
    | er y => exact absurd hk (hend2 s' y)
    | no => rw [hk] at hs; exact absurd hs.symm hno
end
section
variable {C : Cn} {G : List LK.Slot} {m : Md} {e : Expr} {es : List Expr} {kws : List Keyword} {x : Str} {p pos : Pos}
theorem spA_make {α δ ζ : Type} {T : XT} {C0 : Addr} {P : Pt α} {fn : Unit → α → R (Er × ζ) δ} {mv : Option Addr → δ → Mu} [pn : Pin mv] {se : Option Addr → ζ → LK.Slot} {F H : Hp} {vs zs dvs : List V} {a : α} {Q : VK} {E : XK} (ef : Ex F H) (hl : vs.length ≤ sizeLine) (ha : ∀ p F' H', Gr F H F' H' → F' p = some (.tup vs) → P.ra F' H' H' (zs ++ dvs ++ [V.ref p]) a) (hno : fn () a ≠ .no)
    (q1 : ∀ d, fn () a = .ok d → ∀ F1 H1, Gr F H F1 H1 → ∀ p F' H', EnvOk F1 H1 [.ow (mv none d) (pn.mo _ _)] [some (.ref p)] F' H' → Q (.ref p) H') (q2 : ∀ er z, fn () a = .er (er, z) → ∀ F1 H1, Gr F H F1 H1 → ErK T F1 H1 E er) :
    ∀ x dx, H x = none → H dx = none → dx ≠ x → spA (spM T (m0 C0) P fn (fun o d => .ow (mv o d) (pn.mo o d)) se) dvs (.ref x :: vs) zs (upd (upd H dx (.own x)) x (.ins C0 dx [])) (fun v H2 => v = .non ∧ Q (.ref x) H2) E := fun x dx hx hdx ne =>
  ⟨.ref x, vs, rfl, hl, fun p hp => by
    have px : p ≠ x := fun z => by subst z; rw [upd_same] at hp; cases hp
    have pd : p ≠ dx := fun z => by subst z; rw [upd_ne px, upd_same] at hp; cases hp
    have hpH : H p = none := by rw [upd_ne px, upd_ne pd] at hp; exact hp
    have comm : upd (upd (upd H dx (.own x)) x (.ins C0 dx [])) p (.tup vs) = upd (upd (upd H p (.tup vs)) dx (.own x)) x (.ins C0 dx []) := by
      funext b
      by_cases h1 : b = x
      · subst h1; rw [upd_ne (Ne.symm px), upd_same, upd_same]
      · rw [upd_ne (a := x) h1]
        by_cases h2 : b = p
        · subst h2; rw [upd_same, upd_ne pd, upd_same]
        · rw [upd_ne h2, upd_ne h1]
          by_cases h3 : b = dx
          · subst h3; rw [upd_same, upd_same]
          · rw [upd_ne h3, upd_ne h3, upd_ne h2]
    rw [comm]
    have g := Gr.new (o := .tup vs) ef hpH
    exact spM_make g.fh (ha p _ _ g upd_same) hno (fun d hd => q1 d hd _ _ g) (fun er z he => q2 er z he _ _ g) x dx (by rw [upd_ne (Ne.symm px)]; exact hx) (by rw [upd_ne (Ne.symm pd)]; exact hdx) ne⟩
/-- what is known of a class whose __init__ takes *args -/
structure CalA (K : PySem.W.Frag) (mg : Str → Option Value) (C f : Addr) (x : Str) : Prop where
  mm : Mk K C f
  gm : mg x = some (.ref C)
section
variable {α β γ δ ζ : Type} {C0 : Addr} {r : Rp γ} [mr : Mo r] {P2 : Pt β} {P : Pt α} {fn : Unit → α → R (Er × ζ) δ} {mv : Option Addr → δ → Mu} [pn : Pin mv] {se : Option Addr → ζ → LK.Slot} {f : R Er (List γ)} {g2 : R Er β} {k n : Nat} {fa : Addr} {ks : List Str} {dvs : List V} {t1 t2 : TA} {ex : Expr}
/-- the reading of such a making, whatever its form -/
theorem xmkAg (cmb : β → List γ → α) (hcmb : ∀ {F H zs b vs xs p}, P2.ra F H H zs b → Paired (r F) vs xs → xs.length ≤ 16777216 → F p = some (.tup vs) → P.ra F H H (zs ++ dvs ++ [V.ref p]) (cmb b xs)) (hcn : P2.count = ks.length)
    (hpe : PE C.X ex (tMakeA C0 (spA (spM C.T (m0 C0) P fn (fun o d => .ow (mv o d) (pn.mo o d)) se) dvs) ks.length (WE C.W) t1 t2))
    (ha : ∀ F0 H0, Ar C F0 H0 t1 G (fun xs => El F0 H0 t1 G r xs) f) (hw : ∀ F0 H0, Ar C F0 H0 t2 G (fun a => Ea F0 H0 t2 G P2.ra a) g2) :
    XN C ex G (fun d => .ow (mv none d) (pn.mo none d)) (f.bind fun xs => R.iff (xs.length ≤ 16777216) (g2.bind fun b => mkR (fn () (cmb b xs)))) := ⟨fun F0 H0 => by
  have ha := ha F0 H0; have hw := hw F0 H0
  refine Ds.le (t := tMakeA C0 (spA (spM C.T (m0 C0) P fn (fun o d => .ow (mv o d) (pn.mo o d)) se) dvs) ks.length (WE C.W) t1 t2) ?_ fun _ _ _ q => tE_le hpe q
  cases f with
  | no => trivial
  | er y => exact fun σ F H E w Q => ha σ F H E w _
  | ok xs =>
    show Ds C F0 H0 _ G _ (R.iff (xs.length ≤ 16777216) (g2.bind fun b => mkR (fn () (cmb b xs))))
    unfold R.iff
    by_cases hlen : xs.length ≤ 16777216
    rotate_left
    · rw [if_neg hlen]; trivial
    rw [if_pos hlen]
    cases g2 with
    | no => trivial
    | er y => exact fun σ F H E w Q => ha σ F H E _ fun vs F1 H1 g1 h1 => hw σ F1 H1 (E.gro g1) (fun F' H' cls d g z => w F' H' cls d (g1.trans g) z) _
    | ok b =>
      show Ds C F0 H0 _ G _ (mkR (fn () (cmb b xs)))
      have main : ∀ {σ : L2.St} {F H : Hp} {Q : VK}, EnvOk F0 H0 G σ F H → fn () (cmb b xs) ≠ .no → (∀ d, fn () (cmb b xs) = .ok d → ∀ F1 H1, Gr F H F1 H1 → ∀ p F' H', EnvOk F1 H1 [.ow (mv none d) (pn.mo _ _)] [some (.ref p)] F' H' → Q (.ref p) H') → (∀ er z, fn () (cmb b xs) = .er (er, z) → ∀ F1 H1, Gr F H F1 H1 → ErK C.T F1 H1 (WE C.W σ) er) →
          tMakeA C0 (spA (spM C.T (m0 C0) P fn (fun o d => .ow (mv o d) (pn.mo o d)) se) dvs) ks.length (WE C.W) t1 t2 σ H Q := fun {σ F H Q} E hno q1 q2 =>
        ha σ F H E _ fun vs F1 H1 g1 h1 => hw σ F1 H1 (E.gro g1) _ fun zs F2 H2 g2 h2 => ⟨(P2.length h2).trans hcn, spA_make g2.fh (by rw [plen h1]; exact sz_le hlen) (fun p F' H' g' hp => hcmb (Pt.now P2 g' (P2.mono g' (Pt.now P2 ((E.gr.trans g1).trans g2) h2))) (pmap (fun _ _ z => mox (g2.ff.trans g'.ff) z) h1) hlen hp) hno (fun d hd F3 H3 g3 => q1 d hd F3 H3 ((g1.trans g2).trans g3)) (fun er z he F3 H3 g3 => q2 er z he F3 H3 ((g1.trans g2).trans g3))⟩
      cases hf : fn () (cmb b xs) with
      | no => trivial
      | er y =>
        exact fun σ F H E w Q => main E (by rw [hf]; exact fun z => nomatch z) (fun d hd => by rw [hf] at hd; cases hd) fun er z he F1 H1 g1 cls dd F' H' g' rr => by
          rw [hf] at he; cases he
          exact w F' H' cls dd (g1.trans g') rr
      | ok d =>
        exact fun σ F H E Q q => main E (by rw [hf]; exact fun z => nomatch z) (fun d' hd F1 H1 g1 p F' H' E' => by
          rw [hf] at hd; cases hd
          exact q _ F' H' (g1.trans E'.gr) (envRebase g1 E' trivial)) fun er z he => by rw [hf] at he; cases he⟩
end
end
end LJ
set_option Elab.async false
set_option linter.all false
set_option maxRecDepth 100000
set_option maxHeartbeats 4000000
set_option autoImplicit false
namespace LJ
open PySem L2 LK LKX LKB PyProof.Rows PySem.Spec
structure CalAS (K : PySem.W.Frag) (mg : Str → Option Value) (C f : Addr) (x : Str) (fd : FuncData) (p0 pv : Str) : Prop extends CalA K mg C f x where
  b0 : BndA K fd p0 [] pv [] []
structure CalAD (K : PySem.W.Frag) (mg : Str → Option Value) (C f : Addr) (x : Str) (fd : FuncData) (p0 k1 pv : Str) : Prop extends CalA K mg C f x where
  b0 : BndA K fd p0 [k1] pv [] [V.non]
  b1 : BndA K fd p0 [k1] pv [k1] []
section
variable {C : Cn} {G : List LK.Slot} {m : Md} {e : Expr} {es : List Expr} {kws : List Keyword} {x p0 pv k1 : Str} {p pos : Pos}
variable {β γ δ ζ : Type} {C0 : Addr} {r : Rp γ} [mr : Mo r] {mv : Option Addr → δ → Mu} [pn : Pin mv] {se : Option Addr → ζ → LK.Slot} {f : R Er (List γ)} {k n : Nat} {fa : Addr} {fd : FuncData}
theorem ra_tup {F H : Hp} {vs : List V} {xs : List γ} {q : Addr} (h : Paired (r F) vs xs) (hl : xs.length ≤ 16777216) (hp : F q = some (.tup vs)) : (Pt.cons .sh (rTup r) inferInstance .nil : Pt _).ra F H H [V.ref q] (xs, ()) := ⟨.ref q, [], rfl, ⟨q, vs, rfl, hp, hl, h⟩, rfl⟩
section
variable {fn : Unit → List γ × Unit → R (Er × ζ) δ} (I : CalAS C.X.K C.X.mg C0 fa x fd p0 pv)
  (Fo : ∀ ks dvs, BndA C.X.K fd p0 [] pv ks dvs → FnA C.X.prog C.X.w C.X.K C.X.mg C.X.base (L2.CX C.X.prog C.X.w) k fa ks (spA (spM C.T (m0 C0) (.cons .sh (rTup r) inferInstance .nil) fn (fun o d => .ow (mv o d) (pn.mo o d)) se) dvs)) (hr : Room n C.X.A)
include I Fo hr
theorem xmkS (ha : XL C (e :: es) G r f) (hk : k + 1 ≤ n := by decide) (hg : Gl C.X x := by rfl) (hdb : (x == ("__debug__" : Str)) = false := by decide) (he : starEach (e :: es) C.X.env = (false, eval e C.X.env) :: starEach es C.X.env := by exact star_cons rfl) (hpl : (backTo pos (starEach es C.X.env)).any (·.1) = false := by rfl) :
    XN C (.Call (.Name x p) (e :: es) [] pos) G (fun d => .ow (mv none d) (pn.mo none d)) (f.bind fun xs => R.iff (xs.length ≤ 16777216) (mkR (fn () (xs, ())))) :=
  xmkAg (P2 := .nil) (g2 := .ok ()) (ks := []) (dvs := []) (fun _ xs => (xs, ())) (fun {F H zs b vs xs q} h0 h1 h2 h3 => by
    have h0 : zs = [] := h0
    subst h0
    exact ra_tup h1 h2 h3) rfl (pe_makeA I.mm (Fo [] [] I.b0) (hr.mono hk) hg I.gm (fun σ => passAt C.tk σ) rfl pA hdb he hpl) (fun F0 H0 => ha.h F0 H0) (fun F0 H0 => ea_nil)
theorem xmkS0 (hk : k + 1 ≤ n := by decide) (hg : Gl C.X x := by rfl) (hdb : (x == ("__debug__" : Str)) = false := by decide) :
    XN C (.Call (.Name x p) [] [] pos) G (fun d => .ow (mv none d) (pn.mo none d)) (mkR (fn () ([], ()))) :=
  xmkAg (P2 := .nil) (g2 := .ok ()) (f := .ok []) (ks := []) (dvs := []) (r := r) (fun _ xs => (xs, ())) (fun {F H zs b vs xs q} h0 h1 h2 h3 => by
    have h0 : zs = [] := h0
    subst h0
    exact ra_tup h1 h2 h3) rfl (pe_makeA0 I.mm (Fo [] [] I.b0) (hr.mono hk) hg I.gm (fun σ => passAt C.tk σ) rfl hdb) (fun F0 H0 => el_nil) (fun F0 H0 => ea_nil)
end
section
variable {rl : Rp β} [ml : Mo rl] {fn : Unit → β × List γ × Unit → R (Er × ζ) δ} (I : CalAD C.X.K C.X.mg C0 fa x fd p0 k1 pv)
  (Fo : ∀ ks dvs, BndA C.X.K fd p0 [k1] pv ks dvs → FnA C.X.prog C.X.w C.X.K C.X.mg C.X.base (L2.CX C.X.prog C.X.w) k fa ks (spA (spM C.T (m0 C0) (.cons .sh rl ml (.cons .sh (rTup r) inferInstance .nil)) fn (fun o d => .ow (mv o d) (pn.mo o d)) se) dvs)) (hr : Room n C.X.A)
include I Fo hr
theorem xmkD (d0 : β) (hd : ∀ F, rl F .non d0) (ha : XL C (e :: es) G r f) (hk : k + 1 ≤ n := by decide) (hg : Gl C.X x := by rfl) (hdb : (x == ("__debug__" : Str)) = false := by decide) (he : starEach (e :: es) C.X.env = (false, eval e C.X.env) :: starEach es C.X.env := by exact star_cons rfl) (hpl : (backTo pos (starEach es C.X.env)).any (·.1) = false := by rfl) :
    XN C (.Call (.Name x p) (e :: es) [] pos) G (fun d => .ow (mv none d) (pn.mo none d)) (f.bind fun xs => R.iff (xs.length ≤ 16777216) (mkR (fn () (d0, xs, ())))) :=
  xmkAg (P2 := .nil) (g2 := .ok ()) (ks := []) (dvs := [V.non]) (fun _ xs => (d0, xs, ())) (fun {F H zs b vs xs q} h0 h1 h2 h3 => by
    have h0 : zs = [] := h0
    subst h0
    exact ⟨.non, [V.ref q], rfl, hd _, ra_tup h1 h2 h3⟩) rfl (pe_makeA I.mm (Fo [] [V.non] I.b0) (hr.mono hk) hg I.gm (fun σ => passAt C.tk σ) rfl pA hdb he hpl) (fun F0 H0 => ha.h F0 H0) (fun F0 H0 => ea_nil)
theorem xmkD0 (d0 : β) (hd : ∀ F, rl F .non d0) (hk : k + 1 ≤ n := by decide) (hg : Gl C.X x := by rfl) (hdb : (x == ("__debug__" : Str)) = false := by decide) :
    XN C (.Call (.Name x p) [] [] pos) G (fun d => .ow (mv none d) (pn.mo none d)) (mkR (fn () (d0, [], ()))) :=
  xmkAg (P2 := .nil) (g2 := .ok ()) (f := .ok []) (ks := []) (dvs := [V.non]) (r := r) (fun _ xs => (d0, xs, ())) (fun {F H zs b vs xs q} h0 h1 h2 h3 => by
    have h0 : zs = [] := h0
    subst h0
    exact ⟨.non, [V.ref q], rfl, hd _, ra_tup h1 h2 h3⟩) rfl (pe_makeA0 I.mm (Fo [] [V.non] I.b0) (hr.mono hk) hg I.gm (fun σ => passAt C.tk σ) rfl hdb) (fun F0 H0 => el_nil) (fun F0 H0 => ea_nil)
variable {g2 : R Er (β × Unit)}
theorem xmkK' (ha : XL C (e :: es) G r f) (hw : XKw C kws G (.cons .sh rl ml .nil) g2) (hk : k + 1 ≤ n := by decide) (hg : Gl C.X x := by rfl) (hdb : (x == ("__debug__" : Str)) = false := by decide)
    (hall : (backToKw pos (keywordEach kws C.X.env)).all (·.1.isSome) = true := by rfl) (hks : (backToKw pos (keywordEach kws C.X.env)).filterMap (·.1) = [k1] := by rfl)
    (he : starEach (e :: es) C.X.env = (false, eval e C.X.env) :: starEach es C.X.env := by exact star_cons rfl) (hpl : ((backTo pos (starEach (e :: es) C.X.env)).any (·.1) || (backToKw pos (keywordEach kws C.X.env)).any (·.1.isNone)) = false := by rfl) :
    XN C (.Call (.Name x p) (e :: es) kws pos) G (fun d => .ow (mv none d) (pn.mo none d)) (f.bind fun xs => R.iff (xs.length ≤ 16777216) (g2.bind fun b => mkR (fn () (b.1, xs, ())))) :=
  xmkAg (P2 := .cons .sh rl ml .nil) (ks := [k1]) (dvs := []) (fun b xs => (b.1, xs, ())) (fun {F H zs b vs xs q} h0 h1 h2 h3 => by
    obtain ⟨v, us, e1, h4, h5⟩ := h0
    have h5 : us = [] := h5
    subst h5; subst e1
    exact ⟨v, [V.ref q], rfl, h4, ra_tup h1 h2 h3⟩) rfl (pe_makeAK I.mm (Fo [k1] [] I.b1) (hr.mono hk) hg I.gm (fun σ => passAt C.tk σ) pA pK hall hks hdb he hpl) (fun F0 H0 => ha.h F0 H0) (fun F0 H0 => hw.h F0 H0)
theorem xmkK0' (hw : XKw C kws G (.cons .sh rl ml .nil) g2) (hk : k + 1 ≤ n := by decide) (hg : Gl C.X x := by rfl) (hdb : (x == ("__debug__" : Str)) = false := by decide)
    (hall : (backToKw pos (keywordEach kws C.X.env)).all (·.1.isSome) = true := by rfl) (hks : (backToKw pos (keywordEach kws C.X.env)).filterMap (·.1) = [k1] := by rfl)
    (hpl : ((backTo pos (starEach [] C.X.env)).any (·.1) || (backToKw pos (keywordEach kws C.X.env)).any (·.1.isNone)) = false := by rfl) :
    XN C (.Call (.Name x p) [] kws pos) G (fun d => .ow (mv none d) (pn.mo none d)) (g2.bind fun b => mkR (fn () (b.1, [], ()))) :=
  xmkAg (P2 := .cons .sh rl ml .nil) (f := .ok []) (ks := [k1]) (dvs := []) (r := r) (fun b xs => (b.1, xs, ())) (fun {F H zs b vs xs q} h0 h1 h2 h3 => by
    obtain ⟨v, us, e1, h4, h5⟩ := h0
    have h5 : us = [] := h5
    subst h5; subst e1
    exact ⟨v, [V.ref q], rfl, h4, ra_tup h1 h2 h3⟩) rfl (pe_makeAK0 I.mm (Fo [k1] [] I.b1) (hr.mono hk) hg I.gm (fun σ => passAt C.tk σ) pK hall hks hdb hpl) (fun F0 H0 => el_nil) (fun F0 H0 => hw.h F0 H0)
end
/-- a class without an own __init__ -/
structure Mk00 (K : PySem.W.Frag) (C : Addr) : Prop where
  ms : PySem.W.makesIn K C = true
  it : PySem.W.findIn K (.ref C) "__init__" = some (some (.builtin "object.__init__"))
  kp : PySem.W.keepIn K (.ref C) = true
theorem xmk00 (M : Mk00 C.X.K C0) (gm : C.X.mg x = some (.ref C0)) (hg : Gl C.X x := by rfl) (hdb : (x == ("__debug__" : Str)) = false := by decide) :
    XN C (.Call (.Name x p) [] [] pos) G (fun d => .ow (mR C0 Rc.nil none d) inferInstance) (.ok ()) := ⟨fun F0 H0 => fun σ F H E Q q => tE_le (pe_make00 M.ms M.it M.kp hg gm hdb) fun y dx hy hdx ne =>
  q _ F _ ((Gr.wild E.gr.fh hdx).trans (Gr.wild (E.gr.fh.trans (Ex.new hdx)) (by rw [upd_ne (Ne.symm ne)]; exact hy))) (env1o (S := [y, dx]) E.gr.fh ((Gr.wild E.gr.fh hdx).trans (Gr.wild (E.gr.fh.trans (Ex.new hdx)) (by rw [upd_ne (Ne.symm ne)]; exact hy))) (fun b hb => by
    rcases List.mem_cons.mp hb with h | h
    · rw [h]; exact ⟨hy, E.gr.fh.back hy⟩
    · rw [List.mem_singleton.mp h]; exact ⟨hdx, E.gr.fh.back hdx⟩) ⟨fun _ z => (nomatch z), dx, [], rfl, upd_same, by rw [upd_ne ne, upd_same], rfl⟩)⟩
end
end LJ
set_option Elab.async false
set_option linter.all false
set_option maxRecDepth 100000
set_option maxHeartbeats 4000000
set_option autoImplicit false
namespace R
variable {ε δ α β γ S : Type}
/-- a walk that changes nothing and goes on each time -/
theorem runC_unit {B : Unit → α → (Unit → R ε β) → R ε β} {k : Unit → R ε β} : ∀ {xs : List α}, (∀ x ∈ xs, ∀ k, B () x k = k ()) → LK.runC B () xs k = k ()
  | [], _ => rfl
  | x :: xs, h => by
    show B () x _ = _
    rw [h x List.mem_cons_self]
    exact runC_unit fun y hy => h y (List.mem_cons_of_mem _ hy)
theorem mapR_flt {p : α → R ε Bool} {f : α → R ε α} (p' : α → Bool) (xs : List α) (hp : ∀ x ∈ xs, p x = .ok (p' x)) (hf : ∀ x ∈ xs, p' x = true → f x = .ok x) : (R.mapR p f xs : R δ (List α)) = .ok (xs.filter p') := by
  rw [mapR_ok p' id xs hp hf, List.map_id]
end R
namespace PL
open PySem L2 LK LKX LKB LJ PyProof.Rows PySem.Spec
section
variable {α : Type} [Inhabited α]
theorem ixD_get {x : List α} {i : Nat} (h : i < x.length) : ixD x (i : Int) = x[i] := by
  rw [ixD_nat, List.getD_eq_getElem?_getD, List.getElem?_eq_getElem h]; rfl
end
theorem ixTR_nat {x : List Nat} {i : Nat} (h : i < x.length) : ixTR x (i : Int) = .ok [x[i]] := by rw [ixTR_ok ⟨by omega, by omega⟩, ixD_get h]
theorem rng_nat (n : Nat) : rng (n : Int) = (List.range n).map fun (k : Nat) => (k : Int) := by
  unfold rng rng2
  rw [Int.sub_zero, Int.toNat_natCast]
  exact List.map_congr_left fun k _ => by omega
theorem rngR_nat {n : Nat} (h : n ≤ 16777216) : rngR (n : Int) = .ok ((List.range n).map fun (k : Nat) => (k : Int)) := by rw [rngR_ok ⟨by omega, by omega⟩, rng_nat]
theorem mem_rng {n : Nat} {x : Int} : x ∈ (List.range n).map (fun (k : Nat) => (k : Int)) ↔ ∃ k : Nat, k < n ∧ x = (k : Int) := by
  constructor
  · intro h
    obtain ⟨k, h1, h2⟩ := List.mem_map.mp h
    exact ⟨k, List.mem_range.mp h1, h2.symm⟩
  · rintro ⟨k, h, rfl⟩
    exact List.mem_map.mpr ⟨k, List.mem_range.mpr h, rfl⟩
def IsSt (s : List Nat) : Prop := ∀ c ∈ s, c = 46 ∨ c = 104 ∨ c = 114
instance (s : List Nat) : Decidable (IsSt s) := inferInstanceAs (Decidable (∀ c ∈ s, c = 46 ∨ c = 104 ∨ c = 114))
def sts : Nat → List (List Nat)
  | 0 => [[]]
  | n + 1 => (sts n).flatMap fun s => [s ++ [46], s ++ [104], s ++ [114]]
theorem mem_sts : ∀ {n : Nat} {s : List Nat}, s ∈ sts n ↔ s.length = n ∧ IsSt s
  | 0, s => by
    unfold sts
    rw [List.mem_singleton]
    constructor
    · rintro rfl; exact ⟨rfl, fun _ z => nomatch z⟩
    · rintro ⟨h, _⟩; exact List.length_eq_zero_iff.mp h
  | n + 1, s => by
    unfold sts
    rw [List.mem_flatMap]
    constructor
    · rintro ⟨t, ht, hs⟩
      obtain ⟨h1, h2⟩ := mem_sts.mp ht
      have : ∃ c, (c = 46 ∨ c = 104 ∨ c = 114) ∧ s = t ++ [c] := by
        simp only [List.mem_cons, List.not_mem_nil, or_false] at hs
        rcases hs with h | h | h
        · exact ⟨_, .inl rfl, h⟩
        · exact ⟨_, .inr (.inl rfl), h⟩
        · exact ⟨_, .inr (.inr rfl), h⟩
      obtain ⟨c, hc, rfl⟩ := this
      refine ⟨by simp [h1], fun d hd => ?_⟩
      rcases List.mem_append.mp hd with hd | hd
      · exact h2 d hd
      · rw [List.mem_singleton.mp hd]; exact hc
    · rintro ⟨h1, h2⟩
      have hne : s ≠ [] := fun e => by subst e; cases h1
      have es := List.dropLast_concat_getLast hne
      refine ⟨s.dropLast, mem_sts.mpr ⟨by simp [h1], fun c hc => h2 c (List.dropLast_subset s hc)⟩, ?_⟩
      have hl := h2 _ (List.getLast_mem hne)
      simp only [List.mem_cons, List.not_mem_nil, or_false]
      rcases hl with h | h | h
      · exact .inl (by rw [h] at es; exact es.symm)
      · exact .inr (.inl (by rw [h] at es; exact es.symm))
      · exact .inr (.inr (by rw [h] at es; exact es.symm))
theorem lt_app {x y : Nat} : ∀ {a b : List Nat}, a.length = b.length → a < b → a ++ [x] < b ++ [y]
  | [], [], _, h => absurd h (List.lt_irrefl _)
  | c :: a, d :: b, hl, h => by
    rw [List.cons_append, List.cons_append]
    rw [List.cons_lt_cons_iff] at h ⊢
    rcases h with h | ⟨h1, h2⟩
    · exact .inl h
    · exact .inr ⟨h1, lt_app (by simpa using hl) h2⟩
theorem lt_last {x y : Nat} (h : x < y) : ∀ (a : List Nat), a ++ [x] < a ++ [y]
  | [] => by
    rw [List.nil_append, List.nil_append, List.cons_lt_cons_iff]; exact .inl h
  | c :: a => by
    rw [List.cons_append, List.cons_append, List.cons_lt_cons_iff]; exact .inr ⟨rfl, lt_last h a⟩
theorem sts_sorted : ∀ n, (sts n).Pairwise (· < ·)
  | 0 => List.pairwise_singleton _ _
  | n + 1 => by
    unfold sts
    have ih := sts_sorted n
    have hm : ∀ s ∈ sts n, s.length = n := fun s h => (mem_sts.mp h).1
    generalize sts n = l at ih hm
    induction l with
    | nil => exact .nil
    | cons s l il =>
      rw [List.flatMap_cons]
      obtain ⟨h1, h2⟩ := List.pairwise_cons.mp ih
      refine List.pairwise_append.mpr ⟨?_, il h2 fun t ht => hm t (List.mem_cons_of_mem _ ht), fun a ha b hb => ?_⟩
      · simp only [List.pairwise_cons, List.mem_cons, List.not_mem_nil, or_false, forall_eq_or_imp, forall_eq, List.Pairwise.nil, and_true]
        exact ⟨⟨lt_last (by decide) s, lt_last (by decide) s⟩, lt_last (by decide) s, fun _ z => z.elim⟩
      · obtain ⟨t, ht, hb⟩ := List.mem_flatMap.mp hb
        have hst := h1 t ht
        have hl : s.length = t.length := by rw [hm s List.mem_cons_self, hm t (List.mem_cons_of_mem _ ht)]
        simp only [List.mem_cons, List.not_mem_nil, or_false] at ha hb
        rcases ha with rfl | rfl | rfl <;> rcases hb with rfl | rfl | rfl <;> exact lt_app hl hst
theorem sts_nodup (n : Nat) : (sts n).Nodup := (sts_sorted n).imp fun h e => by subst e; exact List.lt_irrefl _ h
section
variable {κ β : Type} [DecidableEq κ]
theorem find_put (k k' : κ) (v : β) : ∀ (d : List (κ × β)), (putA d k v).find? (fun kv => decide (kv.1 = k')) = if k = k' then some (k, v) else d.find? fun kv => decide (kv.1 = k') := by
  intro d
  unfold putA
  split
  · rename_i h
    induction d with
    | nil => cases h
    | cons a d ih =>
      rw [List.map_cons]
      by_cases ha : a.1 = k
      · rw [if_pos ha]
        by_cases hk : k = k'
        · rw [if_pos hk]
          simp [List.find?, ha, hk]
        · rw [if_neg hk]
          have hk2 : ¬ a.1 = k' := fun e => hk (ha.symm.trans e)
          simp only [List.find?, hk2, ha, hk, decide_false]
          by_cases hd : d.any (fun kv => decide (kv.1 = k)) = true
          · rw [ih hd, if_neg hk]
          · have hnone : ∀ x ∈ d, ¬ x.1 = k := fun x hx e => hd (List.any_eq_true.mpr ⟨x, hx, decide_eq_true e⟩)
            have : d.map (fun kv => if kv.1 = k then (kv.1, v) else kv) = d := by
              conv => rhs; rw [← List.map_id d]
              exact List.map_congr_left fun x hx => by rw [if_neg (hnone x hx)]; rfl
            rw [this]
      · rw [if_neg ha]
        have hd : d.any (fun kv => decide (kv.1 = k)) = true := by simpa [ha] using h
        by_cases hk' : a.1 = k'
        · have : ¬ k = k' := fun e => ha (hk'.trans e.symm)
          simp [List.find?, hk', this]
        · simp only [List.find?, hk', decide_false]
          rw [ih hd]
  · rename_i h
    have hnone : ∀ x ∈ d, ¬ x.1 = k := fun x hx e => h (List.any_eq_true.mpr ⟨x, hx, decide_eq_true e⟩)
    rw [List.find?_append]
    by_cases hk : k = k'
    · rw [if_pos hk]
      subst hk
      have : d.find? (fun kv => decide (kv.1 = k)) = none := List.find?_eq_none.mpr fun x hx => by simp [hnone x hx]
      rw [this]; simp
    · rw [if_neg hk]
      cases hf : d.find? (fun kv => decide (kv.1 = k')) with
      | some x => rfl
      | none => simp [hk]
theorem getA_put (d : List (κ × β)) (k k' : κ) (v : β) : getA (putA d k v) k' = if k = k' then some v else getA d k' := by
  unfold getA
  rw [find_put]
  by_cases h : k = k'
  · rw [if_pos h, if_pos h]; rfl
  · rw [if_neg h, if_neg h]
theorem getA_foldl (k' : κ) : ∀ (l : List (κ × β)) (d : List (κ × β)), (getA (l.foldl (fun d kv => putA d kv.1 kv.2) d) k').isSome = ((getA d k').isSome || memD k' (l.map (·.1)))
  | [], d => by rw [List.foldl_nil, List.map_nil]; simp
  | x :: l, d => by
    rw [List.foldl_cons, getA_foldl k' l, getA_put]
    by_cases h : x.1 = k'
    · rw [if_pos h]; simp [h]
    · rw [if_neg h]
      have : ¬ k' = x.1 := fun e => h e.symm
      congr 1
      rw [Bool.eq_iff_iff, decide_eq_true_iff, decide_eq_true_iff, List.map_cons, List.mem_cons]
      exact ⟨.inr, fun z => z.resolve_left this⟩
theorem getA_of (l : List (κ × β)) (k : κ) : (getA (ofA l) k).isSome = memD k (l.map (·.1)) := by
  unfold ofA
  rw [getA_foldl]; simp [getA]
end
theorem memD_iff {α : Type} [DecidableEq α] {x : α} {y : List α} : memD x y = true ↔ x ∈ y := decide_eq_true_iff
theorem memD_congr {α : Type} [DecidableEq α] {x : α} {y z : List α} (h : x ∈ y ↔ x ∈ z) : memD x y = memD x z := by
  rw [Bool.eq_iff_iff, memD_iff, memD_iff]; exact h
def at_ {α : Type} (r : List (List α)) (i : Nat) : List α := r.getD i []
structure RulesOk (n : Nat) (r : List (List (List Nat))) : Prop where
  len : r.length = n
  flt : ∀ i, i < n → (sts n).filter (fun s => memD s (at_ r i)) = at_ r i
  free : ∀ i, i < n → ∀ s ∈ at_ r i, s[i]? = some 46
theorem RulesOk.sub {n : Nat} {r : List (List (List Nat))} (h : RulesOk n r) {i : Nat} (hi : i < n) {s : List Nat} (hs : s ∈ at_ r i) : s ∈ sts n := by
  rw [← h.flt i hi] at hs
  exact (List.mem_filter.mp hs).1
theorem at_set {α : Type} {r : List (List α)} {i j : Nat} {x : List α} (h : i < r.length) : at_ (r.set i x) j = if i = j then x else at_ r j := by
  unfold at_
  rw [List.getD_eq_getElem?_getD, List.getD_eq_getElem?_getD]
  by_cases e : i = j
  · subst e; rw [if_pos rfl, List.getElem?_set_self h]; rfl
  · rw [if_neg e, List.getElem?_set_ne e]
theorem RulesOk.set {n : Nat} {r : List (List (List Nat))} (h : RulesOk n r) {i : Nat} (hi : i < n) {x : List (List Nat)} (h1 : (sts n).filter (fun s => memD s x) = x) (h2 : ∀ s ∈ x, s[i]? = some 46) : RulesOk n (r.set i x) := by
  have hl := h.len
  refine ⟨by rw [List.length_set]; exact hl, fun j hj => ?_, fun j hj s hs => ?_⟩
  · rw [at_set (by omega)]
    by_cases e : i = j
    · rw [if_pos e]; exact h1
    · rw [if_neg e]; exact h.flt j hj
  · rw [at_set (by omega)] at hs
    by_cases e : i = j
    · rw [if_pos e] at hs; subst e; exact h2 s hs
    · rw [if_neg e] at hs; exact h.free j hj s hs
/-- a book's dicts hold these rules -/
structure BookIs (d : List (List (List Nat × Bool))) (r : List (List (List Nat))) : Prop where
  len : d.length = r.length
  keys : ∀ i, i < r.length → ∀ s, (getA (at_ d i) s).isSome = memD s (at_ r i)
  nd : ∀ i, ((at_ d i).map (·.1)).Nodup
theorem put_keys {κ β : Type} [DecidableEq κ] (d : List (κ × β)) (k : κ) (v : β) : (putA d k v).map (·.1) = if k ∈ d.map (·.1) then d.map (·.1) else d.map (·.1) ++ [k] := by
  unfold putA
  by_cases h : (d.any fun kv => decide (kv.1 = k)) = true
  · have hm : k ∈ d.map (·.1) := by
      obtain ⟨x, hx, e⟩ := List.any_eq_true.mp h
      exact List.mem_map.mpr ⟨x, hx, of_decide_eq_true e⟩
    rw [if_pos h, if_pos hm, List.map_map]
    refine List.map_congr_left fun x _ => ?_
    show (if x.1 = k then (x.1, v) else x).1 = x.1
    split <;> rfl
  · have hm : k ∉ d.map (·.1) := fun z => by
      obtain ⟨x, hx, e⟩ := List.mem_map.mp z
      exact h (List.any_eq_true.mpr ⟨x, hx, decide_eq_true e⟩)
    rw [if_neg h, if_neg hm, List.map_append]; rfl
theorem put_nd {κ β : Type} [DecidableEq κ] {d : List (κ × β)} (h : (d.map (·.1)).Nodup) (k : κ) (v : β) : ((putA d k v).map (·.1)).Nodup := by
  rw [put_keys]
  split
  · exact h
  · rename_i hm
    refine List.nodup_append.mpr ⟨h, List.nodup_cons.mpr ⟨by simp, List.nodup_nil⟩, fun a ha b hb => ?_⟩
    rw [List.mem_singleton.mp hb]
    exact fun e => hm (e ▸ ha)
theorem foldl_nd {κ β : Type} [DecidableEq κ] : ∀ (l d : List (κ × β)), (d.map (·.1)).Nodup → ((l.foldl (fun d kv => putA d kv.1 kv.2) d).map (·.1)).Nodup
  | [], d, h => h
  | x :: l, d, h => by rw [List.foldl_cons]; exact foldl_nd l _ (put_nd h x.1 x.2)
theorem ofA_nd {κ β : Type} [DecidableEq κ] (l : List (κ × β)) : ((ofA l).map (·.1)).Nodup := foldl_nd l [] List.nodup_nil
theorem BookIs.set {d : List (List (List Nat × Bool))} {r : List (List (List Nat))} (h : BookIs d r) {i : Nat} (hi : i < r.length) {l x : List (List Nat)} (hx : ∀ s, s ∈ x ↔ s ∈ l) : BookIs (d.set i (ofA (l.map fun s => (s, true)))) (r.set i x) := by
  refine ⟨by rw [List.length_set, List.length_set]; exact h.len, fun j hj s => ?_, fun j => ?nd⟩
  case nd =>
    rw [at_set (by rw [h.len]; exact hi)]
    split
    · exact ofA_nd _
    · exact h.nd j
  rw [List.length_set] at hj
  rw [at_set (by rw [h.len]; exact hi), at_set hi]
  by_cases e : i = j
  · rw [if_pos e, if_pos e, getA_of, List.map_map]
    have : l.map ((fun x : List Nat × Bool => x.1) ∘ fun s => (s, true)) = l := by
      conv => rhs; rw [← List.map_id l]
      rfl
    rw [this]
    rw [Bool.eq_iff_iff, memD_iff, memD_iff]; exact (hx s).symm
  · rw [if_neg e, if_neg e]; exact h.keys j hj s
theorem flat1 : ∀ s : List Nat, (s.map fun c => [c]).flatten = s
  | [] => rfl
  | c :: s => by rw [List.map_cons, List.flatten_cons, flat1 s]; rfl
def sgl (n one two : Nat) : List Nat := ((List.replicate n 46).set two 114).set one 104
def g3 (n item one two : Nat) : List (List Nat) := if one ≠ item ∧ two ≠ item then [sgl n one two] else []
def g2 (n item one : Nat) : List (List Nat) := (List.range n).flatMap (g3 n item one)
def g1 (n item : Nat) : List (List Nat) := List.replicate n 46 :: (List.range n).flatMap (g2 n item)
end PL
set_option Elab.async false
set_option linter.all false
set_option maxRecDepth 100000
set_option maxHeartbeats 4000000
set_option autoImplicit false
namespace PL
open PySem L2 LK LKX LKB LJ PyProof.Rows PySem.Spec
def lk (i : Nat) : List Nat := [43, 48 + i]
def rl (i : Nat) : List Nat := [45, 48 + i]
/-- the items whose sign is c -/
def its (s : List Nat) (c : Nat) : List Nat := (List.range s.length).filter fun i => decide (s[i]? = some c)
def locks (r : List (List (List Nat))) (s : List Nat) : List Nat := (List.range s.length).filter fun i => decide (s[i]? = some 46) && memD s (at_ r i)
/-- the steps that the rules allow -/
def moves (r : List (List (List Nat))) (s : List Nat) : List (List Nat) := (locks r s).map lk ++ (its s 104).map rl
def mv (s t : List Nat) : List Nat := match t with
  | [43, d] => s.set (d - 48) 104
  | [_, d] => s.set (d - 48) 114
  | _ => s
theorem mv_lk (s : List Nat) (i : Nat) : mv s (lk i) = s.set i 104 := by
  show s.set (48 + i - 48) 104 = _
  rw [Nat.add_sub_cancel_left]
theorem mv_rl (s : List Nat) (i : Nat) : mv s (rl i) = s.set i 114 := by
  show s.set (48 + i - 48) 114 = _
  rw [Nat.add_sub_cancel_left]
theorem mem_its {s : List Nat} {c i : Nat} : i ∈ its s c ↔ s[i]? = some c := by
  unfold its
  rw [List.mem_filter, List.mem_range, decide_eq_true_iff]
  exact ⟨fun h => h.2, fun h => ⟨(List.getElem?_eq_some_iff.mp h).1, h⟩⟩
theorem mem_locks {r : List (List (List Nat))} {s : List Nat} {i : Nat} : i ∈ locks r s ↔ s[i]? = some 46 ∧ s ∈ at_ r i := by
  unfold locks
  rw [List.mem_filter, List.mem_range, Bool.and_eq_true, decide_eq_true_iff, memD_iff]
  exact ⟨fun h => h.2, fun h => ⟨(List.getElem?_eq_some_iff.mp h.1).1, h⟩⟩
theorem mem_moves {r : List (List (List Nat))} {s t : List Nat} : t ∈ moves r s ↔ (∃ i, t = lk i ∧ s[i]? = some 46 ∧ s ∈ at_ r i) ∨ (∃ i, t = rl i ∧ s[i]? = some 104) := by
  unfold moves
  rw [List.mem_append, List.mem_map, List.mem_map]
  constructor
  · rintro (⟨i, h, rfl⟩ | ⟨i, h, rfl⟩)
    · exact .inl ⟨i, rfl, mem_locks.mp h⟩
    · exact .inr ⟨i, rfl, mem_its.mp h⟩
  · rintro (⟨i, rfl, h⟩ | ⟨i, rfl, h⟩)
    · exact .inl ⟨i, mem_locks.mpr h, rfl⟩
    · exact .inr ⟨i, mem_its.mpr h, rfl⟩
/-- how many steps lead to a state -/
def mu : List Nat → Nat
  | [] => 0
  | c :: s => (if c = 46 then 0 else if c = 104 then 1 else 2) + mu s
theorem mu_set : ∀ {s : List Nat} {i c d : Nat}, s[i]? = some c → (c = 46 ∧ d = 104) ∨ (c = 104 ∧ d = 114) → mu (s.set i d) = mu s + 1
  | [], i, c, d, h, _ => by simp at h
  | x :: s, 0, c, d, h, hd => by
    simp at h
    subst h
    rw [List.set_cons_zero]
    unfold mu
    rcases hd with ⟨rfl, rfl⟩ | ⟨rfl, rfl⟩
    · show 1 + mu s = 0 + mu s + 1; omega
    · show 2 + mu s = 1 + mu s + 1; omega
  | x :: s, i + 1, c, d, h, hd => by
    rw [List.set_cons_succ]
    unfold mu
    rw [mu_set (by simpa using h) hd]; omega
theorem mu_mv {r : List (List (List Nat))} {s t : List Nat} (ht : t ∈ moves r s) : mu (mv s t) = mu s + 1 := by
  rcases mem_moves.mp ht with ⟨i, rfl, h, _⟩ | ⟨i, rfl, h⟩
  · rw [mv_lk]; exact mu_set h (.inl ⟨rfl, rfl⟩)
  · rw [mv_rl]; exact mu_set h (.inr ⟨rfl, rfl⟩)
theorem mu_start : ∀ n, mu (List.replicate n 46) = 0
  | 0 => rfl
  | n + 1 => by
    rw [List.replicate_succ]
    unfold mu
    rw [mu_start n]; rfl
/-- what is found: the start, and where a step leads from what is found -/
structure Reach (n : Nat) (r : List (List (List Nat))) (K : List Nat → Bool) : Prop where
  sub : ∀ s, K s = true → s ∈ sts n
  start : K (List.replicate n 46) = true
  step : ∀ s, K s = true → ∀ t ∈ moves r s, K (mv s t) = true
  from_ : ∀ u, K u = true → u = List.replicate n 46 ∨ ∃ s t, K s = true ∧ t ∈ moves r s ∧ u = mv s t
/-- steps that the rules allow, one after the other -/
def Alw (r : List (List (List Nat))) : List Nat → List (List Nat) → Prop
  | _, [] => True
  | s, t :: l => t ∈ moves r s ∧ Alw r (mv s t) l
/-- a path that leads to s -/
def Pth (n : Nat) (r : List (List (List Nat))) (p : List (List Nat)) (s : List Nat) : Prop := Alw r (List.replicate n 46) p ∧ p.foldl mv (List.replicate n 46) = s
theorem Pth.nil (n : Nat) (r : List (List (List Nat))) : Pth n r [] (List.replicate n 46) := ⟨trivial, rfl⟩
theorem cutL_nn {α : Type} (x : List α) {k : Int} (h : 0 ≤ k) : cutL x none (some k) = x.take k.toNat := by
  rw [← cutL_pre, Int.toNat_of_nonneg h]
/-- the dicts of the items before j are those of the rules -/
def Pj (n : Nat) (r : List (List (List Nat))) (j : Nat) (d : List (List (List Nat × Bool))) : Prop := d.length = n ∧ (∀ k, k < n → ∀ s, (getA (at_ d k) s).isSome = if k < j then memD s (at_ r k) else false) ∧ ∀ k, ((at_ d k).map (·.1)).Nodup
theorem Pj.nil {n : Nat} {r : List (List (List Nat))} : Pj n r 0 (List.replicate n []) := ⟨by simp, fun k hk s => by
  have e : at_ (List.replicate n ([] : List (List Nat × Bool))) k = [] := by
    unfold at_
    rw [List.getD_eq_getElem?_getD, List.getElem?_replicate]
    split <;> rfl
  rw [e, if_neg (by omega)]; rfl, fun k => by
  have e : at_ (List.replicate n ([] : List (List Nat × Bool))) k = [] := by
    unfold at_
    rw [List.getD_eq_getElem?_getD, List.getElem?_replicate]
    split <;> rfl
  rw [e]; exact List.nodup_nil⟩
theorem Pj.step {n j : Nat} {r : List (List (List Nat))} {d : List (List (List Nat × Bool))} (hp : Pj n r j d) (hj : j < n) {l : List (List Nat)} (hm : ∀ s, s ∈ l ↔ s ∈ at_ r j) : Pj n r (j + 1) (d.set j (ofA (l.map fun s => (s, true)))) := by
  refine ⟨by rw [List.length_set]; exact hp.1, fun k hk s => ?_, fun k => ?nd⟩
  case nd =>
    rw [at_set (by rw [hp.1]; exact hj)]
    split
    · exact ofA_nd _
    · exact hp.2.2 k
  rw [at_set (by rw [hp.1]; exact hj)]
  by_cases e : j = k
  · subst e
    rw [if_pos rfl, if_pos (by omega), getA_of, List.map_map]
    have : l.map ((fun x : List Nat × Bool => x.1) ∘ fun s => (s, true)) = l := by
      conv => rhs; rw [← List.map_id l]
      rfl
    rw [this]
    exact memD_congr (hm s)
  · rw [if_neg e, hp.2.1 k hk s]
    by_cases h : k < j
    · rw [if_pos h, if_pos (by omega)]
    · rw [if_neg h, if_neg (by omega)]
end PL
set_option Elab.async false
set_option linter.all false
set_option maxRecDepth 100000
set_option maxHeartbeats 4000000
set_option autoImplicit false
namespace PL
open PySem LK LJ
/-- a step that fits -/
def Lg (s t : List Nat) : Prop := (∃ i, t = lk i ∧ s[i]? = some 46) ∨ ∃ i, t = rl i ∧ s[i]? = some 104
def Legal : List Nat → List (List Nat) → Prop
  | _, [] => True
  | s, t :: l => Lg s t ∧ Legal (mv s t) l
def run (s : List Nat) (l : List (List Nat)) : List Nat := l.foldl mv s
theorem Lg.lt {s t : List Nat} (h : Lg s t) : ∃ i, i < s.length ∧ (t = lk i ∧ s[i]? = some 46 ∨ t = rl i ∧ s[i]? = some 104) := by
  rcases h with ⟨i, h1, h2⟩ | ⟨i, h1, h2⟩
  · exact ⟨i, (List.getElem?_eq_some_iff.mp h2).1, .inl ⟨h1, h2⟩⟩
  · exact ⟨i, (List.getElem?_eq_some_iff.mp h2).1, .inr ⟨h1, h2⟩⟩
theorem Lg.len {s t : List Nat} (h : Lg s t) : (mv s t).length = s.length := by
  rcases h with ⟨i, rfl, _⟩ | ⟨i, rfl, _⟩
  · rw [mv_lk, List.length_set]
  · rw [mv_rl, List.length_set]
theorem run_len : ∀ {l : List (List Nat)} {s : List Nat}, Legal s l → (run s l).length = s.length
  | [], _, _ => rfl
  | t :: l, s, h => by
    show (run (mv s t) l).length = _
    rw [run_len h.2, h.1.len]
theorem run_app (s : List Nat) (a b : List (List Nat)) : run s (a ++ b) = run (run s a) b := List.foldl_append
theorem legal_app : ∀ {a b : List (List Nat)} {s : List Nat}, Legal s (a ++ b) ↔ Legal s a ∧ Legal (run s a) b
  | [], b, s => ⟨fun h => ⟨trivial, h⟩, fun h => h.2⟩
  | t :: a, b, s => by
    show Lg s t ∧ Legal (mv s t) (a ++ b) ↔ (Lg s t ∧ Legal (mv s t) a) ∧ Legal (run (mv s t) a) b
    rw [legal_app]
    exact ⟨fun h => ⟨⟨h.1, h.2.1⟩, h.2.2⟩, fun h => ⟨h.1.1, h.1.2, h.2⟩⟩
theorem Legal.take {l : List (List Nat)} {s : List Nat} (h : Legal s l) (c : Nat) : Legal s (l.take c) := by
  rw [← List.take_append_drop c l] at h
  exact (legal_app.mp h).1
theorem Legal.at_ {l : List (List Nat)} {s : List Nat} (h : Legal s l) {c : Nat} (hc : c < l.length) : Lg (run s (l.take c)) l[c] := by
  rw [← List.take_append_drop c l] at h
  have := (legal_app.mp h).2
  rw [List.drop_eq_getElem_cons hc] at this
  exact this.1
theorem run_succ {l : List (List Nat)} (s : List Nat) {c : Nat} (hc : c < l.length) : run s (l.take (c + 1)) = mv (run s (l.take c)) l[c] := by
  rw [List.take_add_one, List.getElem?_eq_getElem hc, run_app]; rfl
theorem its_nodup (s : List Nat) (c : Nat) : (its s c).Nodup := List.Pairwise.filter _ List.nodup_range
/-- a whole program over six items -/
def st6 : List Nat := [46, 46, 46, 46, 46, 46]
structure Prog (p : List (List Nat)) : Prop where
  leg : Legal st6 p
  fin : 104 ∉ run st6 p
  len : p.length ≤ 1000
theorem st6_at {d : Nat} : st6[d]? = some 46 ↔ d < 6 := by
  constructor
  · intro h
    exact (List.getElem?_eq_some_iff.mp h).1
  · intro h
    have : d = 0 ∨ d = 1 ∨ d = 2 ∨ d = 3 ∨ d = 4 ∨ d = 5 := by omega
    rcases this with rfl | rfl | rfl | rfl | rfl | rfl <;> rfl
theorem st6_no {d : Nat} : st6[d]? ≠ some 104 := fun h => by
  have := st6_at.mpr (List.getElem?_eq_some_iff.mp h).1
  rw [h] at this; cases this
/-- p holds d behind its first c steps -/
def Hd (p : List (List Nat)) (c d : Nat) : Prop := (run st6 (p.take c))[d]? = some 104
theorem Prog.step {p : List (List Nat)} (h : Prog p) {c : Nat} (hc : c < p.length) : ∃ i, i < 6 ∧ ((p[c] = lk i ∧ ∀ d, Hd p (c + 1) d ↔ d = i ∨ Hd p c d) ∨ (p[c] = rl i ∧ Hd p c i ∧ ∀ d, Hd p (c + 1) d ↔ d ≠ i ∧ Hd p c d)) := by
  obtain ⟨i, hi, hh⟩ := (h.leg.at_ hc).lt
  have hi' := hi
  rw [run_len (h.leg.take c)] at hi
  refine ⟨i, hi, ?_⟩
  unfold Hd
  rw [run_succ st6 hc]
  rcases hh with ⟨q, hq⟩ | ⟨q, hq⟩
  · refine .inl ⟨q, fun d => ?_⟩
    rw [q, mv_lk]
    by_cases e : i = d
    · subst e
      rw [List.getElem?_set_self hi']; simp
    · rw [List.getElem?_set_ne e]
      exact ⟨.inr, fun z => z.elim (fun q => absurd q.symm e) id⟩
  · refine .inr ⟨q, hq, fun d => ?_⟩
    rw [q, mv_rl]
    by_cases e : i = d
    · subst e
      rw [List.getElem?_set_self hi']; simp
    · rw [List.getElem?_set_ne e]
      exact ⟨fun z => ⟨fun q => e q.symm, z⟩, fun z => z.2⟩
theorem getA_drop {κ β : Type} [DecidableEq κ] (d : List (κ × β)) (k k' : κ) : getA (dropA d k) k' = if k = k' then none else getA d k' := by
  unfold getA dropA
  rw [List.find?_filter]
  by_cases e : k = k'
  · subst e
    rw [if_pos rfl]
    have : d.find? (fun a => decide (decide (a.1 ≠ k) = true ∧ decide (a.1 = k) = true)) = none := by
      rw [List.find?_eq_none]
      intro x _ hx
      have := of_decide_eq_true hx
      exact (of_decide_eq_true this.1) (of_decide_eq_true this.2)
    rw [this]; rfl
  · rw [if_neg e]
    congr 2
    funext a
    by_cases h : a.1 = k'
    · have : a.1 ≠ k := fun q => e (q.symm.trans h)
      simp [h, show ¬ k' = k from fun q => e (Eq.symm q)]
    · simp [h]
/-- who holds what, behind the first cs k steps of each program k -/
structure Held (ps : List (List (List Nat))) (cs : List Nat) (h : List (List Nat × Int)) : Prop where
  len : cs.length = ps.length
  le : ∀ (k : Nat) (p : List (List Nat)) (c : Nat), ps[k]? = some p → cs[k]? = some c → c ≤ p.length
  key : ∀ d : Nat, (getA h [48 + d]).isSome = true ↔ ∃ (k : Nat) (p : List (List Nat)) (c : Nat), ps[k]? = some p ∧ cs[k]? = some c ∧ Hd p c d
  one : ∀ (d k k' : Nat) (p p' : List (List Nat)) (c c' : Nat), ps[k]? = some p → cs[k]? = some c → ps[k']? = some p' → cs[k']? = some c' → Hd p c d → Hd p' c' d → k = k'
theorem Hd_zero (p : List (List Nat)) (d : Nat) : ¬ Hd p 0 d := fun h => by
  unfold Hd at h
  rw [List.take_zero] at h
  exact st6_no h
theorem Held.nil {ps : List (List (List Nat))} : Held ps (ps.map fun _ => 0) [] := by
  have z : ∀ (k c : Nat), (ps.map fun _ => 0)[k]? = some c → c = 0 := fun k c h => by
    rw [List.getElem?_map] at h
    cases e : ps[k]? with
    | none => rw [e] at h; cases h
    | some p => rw [e] at h; exact (Option.some.inj h).symm
  refine ⟨by simp, fun k p c _ hc => by rw [z k c hc]; exact Nat.zero_le _, fun d => ⟨fun h => (by cases h), ?_⟩, fun d k k' p p' c c' _ hc _ _ h _ => ?_⟩
  · rintro ⟨k, p, c, _, hc, h⟩
    rw [z k c hc] at h
    exact absurd h (Hd_zero _ _)
  · rw [z k c hc] at h
    exact absurd h (Hd_zero _ _)
theorem key_inj {a b : Nat} : ([48 + a] : List Nat) = [48 + b] ↔ a = b := by
  constructor
  · intro h
    have : 48 + a = 48 + b := by simpa using h
    omega
  · intro h; rw [h]
section
variable {ps : List (List (List Nat))} {cs : List Nat} {h : List (List Nat × Int)} {k c i : Nat} {p : List (List Nat)}
theorem Held.set_at (hh : Held ps cs h) (hk : k < ps.length) (x : Nat) (k' c' : Nat) : (cs.set k x)[k']? = some c' ↔ (k' = k ∧ c' = x) ∨ (k' ≠ k ∧ cs[k']? = some c') := by
  by_cases e : k = k'
  · subst e
    rw [List.getElem?_set_self (by rw [hh.len]; exact hk)]
    simp [eq_comm]
  · rw [List.getElem?_set_ne e]
    simp [show ¬ k' = k from fun q => e (Eq.symm q)]
/-- a release -/
theorem Held.rel (hp : ∀ p ∈ ps, Prog p) (hh : Held ps cs h) (e1 : ps[k]? = some p) (e2 : cs[k]? = some c) (hc : c < p.length) (hi : Hd p c i) (hs : ∀ d, Hd p (c + 1) d ↔ d ≠ i ∧ Hd p c d) : (getA h [48 + i]).isSome = true ∧ Held ps (cs.set k (c + 1)) (dropA h [48 + i]) := by
  have hk := (List.getElem?_eq_some_iff.mp e1).1
  refine ⟨(hh.key i).mpr ⟨k, p, c, e1, e2, hi⟩, by rw [List.length_set]; exact hh.len, fun k' p' c' a b => ?_, fun d => ?_, fun d k1 k2 p1 p2 c1 c2 a1 b1 a2 b2 h1 h2 => ?_⟩
  · rcases (hh.set_at hk _ _ _).mp b with ⟨rfl, rfl⟩ | ⟨_, b⟩
    · rw [e1] at a; cases a; exact hc
    · exact hh.le k' p' c' a b
  · rw [getA_drop]
    by_cases e : i = d
    · subst e
      rw [if_pos rfl]
      refine ⟨fun z => (by cases z), ?_⟩
      rintro ⟨k', p', c', a, b, z⟩
      rcases (hh.set_at hk _ _ _).mp b with ⟨rfl, rfl⟩ | ⟨nk, b⟩
      · rw [e1] at a; cases a
        exact absurd rfl ((hs i).mp z).1
      · exact absurd (hh.one i _ _ _ _ _ _ a b e1 e2 z hi) nk
    · rw [if_neg (fun q => e (key_inj.mp q)), hh.key]
      constructor
      · rintro ⟨k', p', c', a, b, z⟩
        by_cases ek : k' = k
        · subst ek
          rw [e1] at a; cases a
          rw [e2] at b; cases b
          exact ⟨k', p, c + 1, e1, (hh.set_at hk _ _ _).mpr (.inl ⟨rfl, rfl⟩), (hs d).mpr ⟨fun q => e q.symm, z⟩⟩
        · exact ⟨k', p', c', a, (hh.set_at hk _ _ _).mpr (.inr ⟨ek, b⟩), z⟩
      · rintro ⟨k', p', c', a, b, z⟩
        rcases (hh.set_at hk _ _ _).mp b with ⟨rfl, rfl⟩ | ⟨_, b⟩
        · rw [e1] at a; cases a
          exact ⟨k', p, c, e1, e2, ((hs d).mp z).2⟩
        · exact ⟨k', p', c', a, b, z⟩
  · have back : ∀ {k' : Nat} {p' : List (List Nat)} {c' : Nat}, ps[k']? = some p' → (cs.set k (c + 1))[k']? = some c' → Hd p' c' d → ∃ c'', cs[k']? = some c'' ∧ Hd p' c'' d := fun {k' p' c'} a b z => by
      rcases (hh.set_at hk _ _ _).mp b with ⟨rfl, rfl⟩ | ⟨_, b⟩
      · rw [e1] at a; cases a
        exact ⟨c, e2, ((hs d).mp z).2⟩
      · exact ⟨c', b, z⟩
    obtain ⟨c1', b1', h1'⟩ := back a1 b1 h1
    obtain ⟨c2', b2', h2'⟩ := back a2 b2 h2
    exact hh.one d _ _ _ _ _ _ a1 b1' a2 b2' h1' h2'
end
end PL
set_option Elab.async false
set_option linter.all false
set_option maxRecDepth 100000
set_option maxHeartbeats 4000000
set_option autoImplicit false
namespace R
variable {ε δ α β S : Type}
/-- a walk that ends with r at some item, or goes through -/
theorem runC_test {B : Unit → α → (Unit → R ε β) → R ε β} {k : Unit → R ε β} {r : R ε β} (p : α → Bool) : ∀ {xs : List α}, (∀ x ∈ xs, ∀ k, B () x k = if p x = true then r else k ()) → LK.runC B () xs k = if xs.any p = true then r else k ()
  | [], _ => rfl
  | x :: xs, h => by
    show B () x _ = _
    rw [h x List.mem_cons_self, List.any_cons]
    cases hp : p x with
    | true => rfl
    | false =>
      rw [if_neg (by simp), Bool.false_or]
      exact runC_test p fun y hy => h y (List.mem_cons_of_mem _ hy)
end R
namespace PL
open PySem L2 LK LKX LKB LJ PyProof.Rows PySem.Spec
/-- by induction along the steps -/
theorem Reach.ind {n : Nat} {r : List (List (List Nat))} {K : List Nat → Bool} (h : Reach n r K) {P : List Nat → Prop} (h0 : P (List.replicate n 46)) (hs : ∀ s t, K s = true → P s → t ∈ moves r s → P (mv s t)) : ∀ u, K u = true → P u := by
  have go : ∀ m u, mu u = m → K u = true → P u := by
    intro m
    induction m using Nat.strongRecOn with
    | _ m ih =>
      intro u hm hu
      rcases h.from_ u hu with rfl | ⟨s, t, h1, h2, rfl⟩
      · exact h0
      · have := mu_mv h2
        exact hs s t h1 (ih (mu s) (by omega) s rfl h1) h2
  exact fun u => go _ u rfl
theorem moves_le {r r' : List (List (List Nat))} {s t : List Nat} (h : ∀ i, s ∈ at_ r i → s ∈ at_ r' i) (ht : t ∈ moves r s) : t ∈ moves r' s := by
  rcases mem_moves.mp ht with ⟨i, e, h1, h2⟩ | ⟨i, e, h1⟩
  · exact mem_moves.mpr (.inl ⟨i, e, h1, h i h2⟩)
  · exact mem_moves.mpr (.inr ⟨i, e, h1⟩)
theorem Reach.le {n : Nat} {r r' : List (List (List Nat))} {K K' : List Nat → Bool} (h : Reach n r K) (h' : Reach n r' K') (hs : ∀ s, K s = true → ∀ i, s ∈ at_ r i → s ∈ at_ r' i) : ∀ s, K s = true → K' s = true :=
  h.ind h'.start fun s t h1 h2 h3 => h'.step s h2 t (moves_le (hs s h1) h3)
theorem at_out {α : Type} {r : List (List α)} {i : Nat} (h : r.length ≤ i) : at_ r i = [] := by
  unfold at_
  rw [List.getD_eq_getElem?_getD, List.getElem?_eq_none h]; rfl
/-- taken items -/
def tk (s : List Nat) : List Nat := (List.range s.length).filter fun i => decide (s[i]? = some 104) || decide (s[i]? = some 114)
end PL
namespace PL
open PySem L2 LK LKX LKB LJ PyProof.Rows PySem.Spec
/-- rules in any order -/
structure RulesW (n : Nat) (r : List (List (List Nat))) : Prop where
  len : r.length = n
  sub : ∀ i, i < n → ∀ s ∈ at_ r i, s ∈ sts n
  free : ∀ i, i < n → ∀ s ∈ at_ r i, s[i]? = some 46
  nd : ∀ i, (at_ r i).Nodup
theorem RulesOk.w {n : Nat} {r : List (List (List Nat))} (h : RulesOk n r) : RulesW n r := ⟨h.len, fun i hi s hs => h.sub hi hs, h.free, fun i => by
  by_cases hi : i < n
  · rw [← h.flt i hi]; exact (sts_nodup n).sublist List.filter_sublist
  · rw [at_out (by rw [h.len]; omega)]; exact List.nodup_nil⟩
theorem RulesW.set {n : Nat} {r : List (List (List Nat))} (h : RulesW n r) {i : Nat} (hi : i < n) {x : List (List Nat)} (h1 : ∀ s ∈ x, s ∈ sts n) (h2 : ∀ s ∈ x, s[i]? = some 46) (h3 : x.Nodup) : RulesW n (r.set i x) := by
  refine ⟨by rw [List.length_set]; exact h.len, fun j hj s hs => ?_, fun j hj s hs => ?_, fun j => ?_⟩
  · rw [at_set (by rw [h.len]; exact hi)] at hs
    split at hs
    · exact h1 s hs
    · exact h.sub j hj s hs
  · rw [at_set (by rw [h.len]; exact hi)] at hs
    split at hs
    · rename_i e; subst e; exact h2 s hs
    · exact h.free j hj s hs
  · rw [at_set (by rw [h.len]; exact hi)]
    split
    · exact h3
    · exact h.nd j
end PL
namespace PL
open PySem L2 LK LKX LKB LJ PyProof.Rows PySem.Spec
/-- one more state at the end of a rule -/
theorem RulesW.add {n j : Nat} {t : List (List (List Nat))} (h : RulesW n t) (hj : j < n) {s : List Nat} (hs : s ∈ sts n) (hf : s[j]? = some 46) (hn : s ∉ at_ t j) : RulesW n (t.set j (at_ t j ++ [s])) := by
  refine h.set hj (fun u hu => ?_) (fun u hu => ?_) ?_
  · rcases List.mem_append.mp hu with hu | hu
    · exact h.sub j hj u hu
    · rw [List.mem_singleton.mp hu]; exact hs
  · rcases List.mem_append.mp hu with hu | hu
    · exact h.free j hj u hu
    · rw [List.mem_singleton.mp hu]; exact hf
  · refine List.nodup_append.mpr ⟨h.nd j, List.nodup_cons.mpr ⟨by simp, List.nodup_nil⟩, fun a ha b hb => ?_⟩
    rw [List.mem_singleton.mp hb]
    exact fun e => hn (e ▸ ha)
end PL
set_option Elab.async false
set_option linter.all false
set_option maxRecDepth 100000
set_option maxHeartbeats 4000000
set_option autoImplicit false
namespace PL
open PySem L2 LK LKX LKB LJ PyProof.Rows PySem.Spec
abbrev lsT (a b : List (List Nat)) : Bool := lsLt (fun x y : List Nat => decide (x < y)) a b
theorem lsT_cons (x y : List Nat) (a b : List (List Nat)) : lsT (x :: a) (y :: b) = if x = y then lsT a b else decide (x < y) := rfl
theorem lsT_irr : ∀ a : List (List Nat), lsT a a = false
  | [] => rfl
  | x :: a => by rw [lsT_cons, if_pos rfl]; exact lsT_irr a
theorem lsT_trans : ∀ {a b c : List (List Nat)}, lsT a b = true → lsT b c = true → lsT a c = true
  | [], [], _, h, _ => nomatch h
  | [], _ :: _, [], _, h => nomatch h
  | [], _ :: _, _ :: _, _, _ => rfl
  | _ :: _, [], _, h, _ => nomatch h
  | _ :: _, _ :: _, [], _, h => nomatch h
  | x :: a, y :: b, z :: c, h1, h2 => by
    rw [lsT_cons] at h1 h2 ⊢
    by_cases e1 : x = y
    · subst e1
      rw [if_pos rfl] at h1
      by_cases e2 : x = z
      · subst e2
        rw [if_pos rfl] at h2 ⊢
        exact lsT_trans h1 h2
      · rw [if_neg e2] at h2 ⊢; exact h2
    · rw [if_neg e1, decide_eq_true_iff] at h1
      by_cases e2 : y = z
      · subst e2
        rw [if_neg e1, decide_eq_true_iff]; exact h1
      · rw [if_neg e2, decide_eq_true_iff] at h2
        have h3 := List.lt_trans h1 h2
        rw [if_neg (fun e => by subst e; exact List.lt_irrefl _ h3), decide_eq_true_iff]
        exact h3
/-- the shorter, then the less -/
def lp (a b : List (List Nat)) : Bool := if a.length = b.length then lsT a b else decide (a.length < b.length)
theorem lp_irr (a : List (List Nat)) : lp a a = false := by
  unfold lp; rw [if_pos rfl]; exact lsT_irr a
theorem lp_trans {a b c : List (List Nat)} (h1 : lp a b = true) (h2 : lp b c = true) : lp a c = true := by
  unfold lp at h1 h2 ⊢
  by_cases e1 : a.length = b.length
  · rw [if_pos e1] at h1
    rw [e1]
    by_cases e2 : b.length = c.length
    · rw [if_pos e2] at h2 ⊢; exact lsT_trans h1 h2
    · rw [if_neg e2] at h2 ⊢; exact h2
  · rw [if_neg e1, decide_eq_true_iff] at h1
    by_cases e2 : b.length = c.length
    · rw [if_neg (by omega), decide_eq_true_iff]; omega
    · rw [if_neg e2, decide_eq_true_iff] at h2
      rw [if_neg (by omega), decide_eq_true_iff]; omega
/-- least among those with P -/
structure Lst (P : List (List Nat) → Prop) (o : Option (List (List Nat))) : Prop where
  none_ : o = none → ∀ p, ¬ P p
  some_ : ∀ p, o = some p → P p
  least : ∀ p, o = some p → ∀ q, P q → lp q p = false
/-- one more is seen -/
theorem Lst.add {P : List (List Nat) → Prop} {o : Option (List (List Nat))} (h : Lst P o) (x : List (List Nat)) (hx : o = none ∨ ∃ p, o = some p ∧ lp x p = true) : Lst (fun p => P p ∨ p = x) (some x) :=
  ⟨(fun e => nomatch e), fun p e => by cases e; exact .inr rfl, fun p e q hq => by
    cases e
    rcases hq with hq | rfl
    · rcases hx with h0 | ⟨p, hp, hl⟩
      · exact absurd hq (h.none_ h0 q)
      · rw [← Bool.not_eq_true]
        intro z
        have := lp_trans z hl
        rw [h.least p hp q hq] at this; cases this
    · exact lp_irr q⟩
theorem alw_mu {r : List (List (List Nat))} : ∀ {p : List (List Nat)} {s : List Nat}, Alw r s p → mu (p.foldl mv s) = mu s + p.length
  | [], _, _ => rfl
  | t :: p, s, h => by
    rw [List.foldl_cons, alw_mu h.2, mu_mv h.1, List.length_cons]; omega
theorem Pth.len {n : Nat} {r : List (List (List Nat))} {p : List (List Nat)} {s : List Nat} (h : Pth n r p s) : p.length = mu s := by
  have := alw_mu h.1
  rw [h.2, mu_start] at this; omega
end PL
set_option maxHeartbeats 4000000
namespace Zk04
open PySem L2 LK LKX LKB LJ LG PyProof.Rows PySem.Spec
def m_items_with (v_state : (List Nat)) (v_signs : (List Nat)) : R Er (List Int) :=
  (((rngR (v_state.length : Int))).bind fun y2 => (R.mapR (fun x1 => ((((ixTR v_state x1)).bind fun y1 => (inTR y1 v_signs)) : R Er Bool)) (fun x1 => ((R.ok x1) : R Er Int)) y2))
def m_held_items (v_state : (List Nat)) : R Er (List Int) :=
  (m_items_with v_state ([104] : List Nat))
def m_released_items (v_state : (List Nat)) : R Er (List Int) :=
  (m_items_with v_state ([114] : List Nat))
def m_taken_items (v_state : (List Nat)) : R Er (List Int) :=
  (m_items_with v_state ([104, 114] : List Nat))
def m_distinct_items_b1 (t1 : (List Int)) (x1 : Int) (k : (List Int) → R Er (List Int)) : R Er (List Int) :=
let v_found2 := t1
let v_item1 := x1
(cond (cond (decide (v_item1 < (0 : Int))) true (decide ((6 : Int) ≤ v_item1))) ((let y1 := v_item1
(R.er (1, [Tod.d rInt y1]))))
((cond (!memD v_item1 v_found2) ((appR v_found2 v_item1).bind fun v_found3 =>
(k v_found3))
((k v_found2)))))
def m_distinct_items (v_listed : (List Int)) : R Er (List Int) :=
  let v_found1 := ([] : List Int)
LK.runC (m_distinct_items_b1) v_found1 v_listed fun t2 =>
let v_found4 := t2
(R.ok v_found4)
def m_Condition_call (v_self : Unit) (v_item : Int) (v_state : (List Nat)) : R Er Bool :=
  (R.ok true)
def m_Both_init (v_first : Cd) (v_second : Cd) : R (Er × Unit) ((Unit × Cd) × Cd) :=
  let v_self1 := v_first
let v_self2 := v_second
(R.ok (((), v_self1), v_self2))
def m_Both_call (cc_ : Cd → Int × List Nat × Unit → R Er Bool) (v_self : ((Unit × Cd) × Cd)) (v_item : Int) (v_state : (List Nat)) : R Er Bool :=
  (((cc_ v_self.1.2 (v_item, v_state, ()))).bind fun y1 => (cond y1 (cc_ v_self.2 (v_item, v_state, ())) (R.ok false)))
def m_Either_init (v_first : Cd) (v_second : Cd) : R (Er × Unit) ((Unit × Cd) × Cd) :=
  let v_self1 := v_first
let v_self2 := v_second
(R.ok (((), v_self1), v_self2))
def m_Either_call (cc_ : Cd → Int × List Nat × Unit → R Er Bool) (v_self : ((Unit × Cd) × Cd)) (v_item : Int) (v_state : (List Nat)) : R Er Bool :=
  (((cc_ v_self.1.2 (v_item, v_state, ()))).bind fun y1 => (cond y1 (R.ok true) (cc_ v_self.2 (v_item, v_state, ()))))
def m_Opposite_init (v_inner : Cd) : R (Er × Unit) (Unit × Cd) :=
  let v_self1 := v_inner
(R.ok ((), v_self1))
def m_Opposite_call (cc_ : Cd → Int × List Nat × Unit → R Er Bool) (v_self : (Unit × Cd)) (v_item : Int) (v_state : (List Nat)) : R Er Bool :=
  (((cc_ v_self.2 (v_item, v_state, ()))).bind fun y1 => R.ok (!y1))
def m_Holds_init (v_least : (Option Int)) (v_needed : (List Int)) : R (Er × Unit) ((Unit × (List Int)) × Int) :=
  ((m_distinct_items v_needed)).thn (fun y => (y, ())) fun v_self1 =>
((cond v_least.isNone (R.ok (((), v_self1).2.length : Int)) (optR v_least))).thn (fun y => (y, ())) fun v_self2 =>
(R.ok (((), v_self1), v_self2))
def m_Holds_call (v_self : ((Unit × (List Int)) × Int)) (v_item : Int) (v_state : (List Nat)) : R Er Bool :=
  ((m_held_items v_state)).bind fun v_kept1 =>
(((((R.mapR (fun x1 => ((R.ok (memD x1 v_kept1)) : R Er Bool)) (fun x1 => ((R.ok x1) : R Er Int)) v_self.1.2)).bind fun y1 => R.ok (y1.length : Int))).bind fun y2 => R.ok (decide (v_self.2 ≤ y2)))
def m_HoldsOnly_init (v_exact : (List Int)) : R (Er × Unit) (Unit × (List Int)) :=
  ((m_distinct_items v_exact)).thn (fun y => (y, ())) fun v_self1 =>
(R.ok ((), v_self1))
def m_HoldsOnly_call (v_self : (Unit × (List Int))) (v_item : Int) (v_state : (List Nat)) : R Er Bool :=
  ((m_held_items v_state)).bind fun v_kept1 =>
(cond (decide ((v_kept1.length : Int) = (v_self.2.length : Int))) (((R.mapR (fun _ => (R.ok true : R Er Bool)) (fun x1 => ((R.ok (memD x1 v_kept1)) : R Er Bool)) v_self.2)).bind fun y1 => R.ok (y1.all id)) (R.ok false))
def m_Untaken_init (v_listed : (List Int)) : R (Er × Unit) (Unit × (List Int)) :=
  ((m_distinct_items v_listed)).thn (fun y => (y, ())) fun v_self1 =>
(R.ok ((), v_self1))
def m_Untaken_call (v_self : (Unit × (List Int))) (v_item : Int) (v_state : (List Nat)) : R Er Bool :=
  ((m_taken_items v_state)).bind fun v_found1 =>
(cond (!(!v_self.2.isEmpty)) ((((lenR ([] : List Int))).bind fun y1 => R.ok (decide (v_found1 = y1))))
((((((R.mapR (fun _ => (R.ok true : R Er Bool)) (fun x1 => ((R.ok (memD x1 v_found1)) : R Er Bool)) v_self.2)).bind fun y2 => R.ok (y2.any id))).bind fun y3 => R.ok (!y3))))
def m_Unreleased_init (v_listed : (List Int)) : R (Er × Unit) (Unit × (List Int)) :=
  ((m_distinct_items v_listed)).thn (fun y => (y, ())) fun v_self1 =>
(R.ok ((), v_self1))
def m_Unreleased_call (v_self : (Unit × (List Int))) (v_item : Int) (v_state : (List Nat)) : R Er Bool :=
  ((m_released_items v_state)).bind fun v_found1 =>
(cond (!(!v_self.2.isEmpty)) ((((lenR ([] : List Int))).bind fun y1 => R.ok (decide (v_found1 = y1))))
((((((R.mapR (fun _ => (R.ok true : R Er Bool)) (fun x1 => ((R.ok (memD x1 v_found1)) : R Er Bool)) v_self.2)).bind fun y2 => R.ok (y2.any id))).bind fun y3 => R.ok (!y3))))
def m_Locks_init (v_listed : (List Int)) : R (Er × Unit) (Unit × (List Int)) :=
  ((m_distinct_items v_listed)).thn (fun y => (y, ())) fun v_self1 =>
(R.ok ((), v_self1))
def m_Locks_call (v_self : (Unit × (List Int))) (v_item : Int) (v_state : (List Nat)) : R Er Bool :=
  (R.ok (memD v_item v_self.2))
def m_cond : Nat → Cd → Int × List Nat × Unit → R Er Bool
  | 0 => fun _ _ => .no
  | q + 1 => fun c a => match c with
    | .any => m_Condition_call () a.1 a.2.1
    | .both x y => m_Both_call (m_cond q) (((), x), y) a.1 a.2.1
    | .either x y => m_Either_call (m_cond q) (((), x), y) a.1 a.2.1
    | .opp x => m_Opposite_call (m_cond q) ((), x) a.1 a.2.1
    | .holds l n => m_Holds_call (((), l), n) a.1 a.2.1
    | .only l => m_HoldsOnly_call ((), l) a.1 a.2.1
    | .unt l => m_Untaken_call ((), l) a.1 a.2.1
    | .unr l => m_Unreleased_call ((), l) a.1 a.2.1
    | .locks l => m_Locks_call ((), l) a.1 a.2.1
def m_law_cell (v_law_script : (List Int)) (v_law_k : Int) : R Er Int :=
  (cond (decide (v_law_k < (v_law_script.length : Int))) ((ixR v_law_script v_law_k))
((R.ok (0 : Int))))
def m_law_numbers_s1 (v_law_limit : Int) (t1 : (Int × (List Int) × Int)) (x1 : Int) : R Er (Int × (List Int) × Int) :=
let v_law_mixed2 := t1.1
let v_law_row2 := t1.2.1
let v_law_left4 := t1.2.2
let v_law_k1 := x1
((((((((((mulR v_law_mixed2 (48271 : Int))).bind fun y3 => ((mulR (10007 : Int) v_law_k1)).bind fun y4 => R.ok (y3 + y4))).bind fun y5 => R.ok (y5 + (12345 : Int)))).bind fun y6 => R.ok y6)).bind fun y7 => (modR y7 (2147483647 : Int)))).bind fun v_law_mixed3 =>
((cond (decide ((0 : Int) < v_law_left4)) (((modR v_law_left4 v_law_limit)).bind fun y8 =>
(appR v_law_row2 y8).bind fun v_law_row4 =>
((divR v_law_left4 v_law_limit)).bind fun v_law_left6 =>
(R.ok (v_law_row4, v_law_left6)))
(((((divR v_law_mixed3 (1021 : Int))).bind fun y9 => (modR y9 v_law_limit))).bind fun y10 =>
(appR v_law_row2 y10).bind fun v_law_row5 =>
(R.ok (v_law_row5, v_law_left4))))).bind fun s2 =>
let v_law_row3 := s2.1
let v_law_left5 := s2.2
(R.ok (v_law_mixed3, v_law_row3, v_law_left5))
def m_law_numbers (v_law_cell_here : Int) (v_law_many : Int) (v_law_limit : Int) : R Er (List Int) :=
  let v_law_left1 := (0 : Int)
((((((powR (10 : Int) (18 : Int))).bind fun y1 => R.ok (decide (y1 ≤ v_law_cell_here)))).bind fun y12 => cond y12 (((((powR (10 : Int) (18 : Int))).bind fun y2 => R.ok (v_law_cell_here - y2))).bind fun v_law_left3 =>
(R.ok v_law_left3))
((R.ok v_law_left1)))).bind fun s1 =>
let v_law_left2 := s1
((modR v_law_cell_here (2147483647 : Int))).bind fun v_law_mixed1 =>
let v_law_row1 := ([] : List Int)
((rngR v_law_many)).bind fun y11 =>
(R.foldR (m_law_numbers_s1 v_law_limit) (v_law_mixed1, v_law_row1, v_law_left2) y11).bind fun t2 =>
let v_law_mixed4 := t2.1
let v_law_row6 := t2.2.1
let v_law_left7 := t2.2.2
(R.ok v_law_row6)
def m_law_meet_b1 (v_law_other : (List Int)) (t1 : Unit) (x1 : Int) (k : Unit → R Er Bool) : R Er Bool :=
let v_law_item1 := x1
(cond (memD v_law_item1 v_law_other) ((R.ok true))
((k ())))
def m_law_meet (v_law_row : (List Int)) (v_law_other : (List Int)) : R Er Bool :=
  LK.runC (m_law_meet_b1 v_law_other) () v_law_row fun t2 =>
(R.ok false)
def m_law_with (v_law_state_here : (List Nat)) (v_law_signs : (List Nat)) : R Er (List Int) :=
  (((rngR (v_law_state_here.length : Int))).bind fun y2 => (R.mapR (fun x1 => ((((ixTR v_law_state_here x1)).bind fun y1 => (inTR y1 v_law_signs)) : R Er Bool)) (fun x1 => ((R.ok x1) : R Er Int)) y2))
def m_law_state (v_law_cell_here : Int) (v_law_size : Int) : R Er (List Nat) :=
  (((((m_law_numbers v_law_cell_here v_law_size (3 : Int))).bind fun y1 => (R.mapR (fun _ => (R.ok true : R Er Bool)) (fun x1 => ((ixTR ([46, 104, 114] : List Nat) x1) : R Er (List Nat))) y1))).bind fun y2 => (joinR ([] : List Nat) y2))
def m_law_holds (v_law_row : (List Int)) (v_law_many : Int) : R Er Cd :=
  (cond (decide ((v_law_row.length : Int) = (0 : Int))) ((((mkR (m_Holds_init (some v_law_many) ([] : List Int)))).bind fun y1 => R.ok (Cd.holds y1.1.2 y1.2)))
((cond (decide ((v_law_row.length : Int) = (1 : Int))) ((((((ixR v_law_row (0 : Int))).bind fun y2 => (R.iff ((([y2] : List Int)).length ≤ 16777216) (mkR (m_Holds_init (some v_law_many) ([y2] : List Int)))))).bind fun y3 => R.ok (Cd.holds y3.1.2 y3.2)))
((cond (decide ((v_law_row.length : Int) = (2 : Int))) ((((((ixR v_law_row (0 : Int))).bind fun y4 => ((ixR v_law_row (1 : Int))).bind fun y5 => (R.iff ((([y4, y5] : List Int)).length ≤ 16777216) (mkR (m_Holds_init (some v_law_many) ([y4, y5] : List Int)))))).bind fun y6 => R.ok (Cd.holds y6.1.2 y6.2)))
((cond (decide ((v_law_row.length : Int) = (3 : Int))) ((((((ixR v_law_row (0 : Int))).bind fun y7 => ((ixR v_law_row (1 : Int))).bind fun y8 => ((ixR v_law_row (2 : Int))).bind fun y9 => (R.iff ((([y7, y8, y9] : List Int)).length ≤ 16777216) (mkR (m_Holds_init (some v_law_many) ([y7, y8, y9] : List Int)))))).bind fun y10 => R.ok (Cd.holds y10.1.2 y10.2)))
((((((ixR v_law_row (0 : Int))).bind fun y11 => ((ixR v_law_row (1 : Int))).bind fun y12 => ((ixR v_law_row (2 : Int))).bind fun y13 => ((ixR v_law_row (3 : Int))).bind fun y14 => ((ixR v_law_row (4 : Int))).bind fun y15 => (R.iff ((([y11, y12, y13, y14, y15] : List Int)).length ≤ 16777216) (mkR (m_Holds_init (some v_law_many) ([y11, y12, y13, y14, y15] : List Int)))))).bind fun y16 => R.ok (Cd.holds y16.1.2 y16.2))))))))))
def m_law_plain (v_law_row : (List Int)) : R Er Cd :=
  (cond (decide ((v_law_row.length : Int) = (0 : Int))) ((((mkR (m_Holds_init (none : Option Int) ([] : List Int)))).bind fun y1 => R.ok (Cd.holds y1.1.2 y1.2)))
((cond (decide ((v_law_row.length : Int) = (1 : Int))) ((((((ixR v_law_row (0 : Int))).bind fun y2 => (R.iff ((([y2] : List Int)).length ≤ 16777216) (mkR (m_Holds_init (none : Option Int) ([y2] : List Int)))))).bind fun y3 => R.ok (Cd.holds y3.1.2 y3.2)))
((cond (decide ((v_law_row.length : Int) = (2 : Int))) ((((((ixR v_law_row (0 : Int))).bind fun y4 => ((ixR v_law_row (1 : Int))).bind fun y5 => (R.iff ((([y4, y5] : List Int)).length ≤ 16777216) (mkR (m_Holds_init (none : Option Int) ([y4, y5] : List Int)))))).bind fun y6 => R.ok (Cd.holds y6.1.2 y6.2)))
((cond (decide ((v_law_row.length : Int) = (3 : Int))) ((((((ixR v_law_row (0 : Int))).bind fun y7 => ((ixR v_law_row (1 : Int))).bind fun y8 => ((ixR v_law_row (2 : Int))).bind fun y9 => (R.iff ((([y7, y8, y9] : List Int)).length ≤ 16777216) (mkR (m_Holds_init (none : Option Int) ([y7, y8, y9] : List Int)))))).bind fun y10 => R.ok (Cd.holds y10.1.2 y10.2)))
((((((ixR v_law_row (0 : Int))).bind fun y11 => ((ixR v_law_row (1 : Int))).bind fun y12 => ((ixR v_law_row (2 : Int))).bind fun y13 => ((ixR v_law_row (3 : Int))).bind fun y14 => ((ixR v_law_row (4 : Int))).bind fun y15 => (R.iff ((([y11, y12, y13, y14, y15] : List Int)).length ≤ 16777216) (mkR (m_Holds_init (none : Option Int) ([y11, y12, y13, y14, y15] : List Int)))))).bind fun y16 => R.ok (Cd.holds y16.1.2 y16.2))))))))))
def m_law_only (v_law_row : (List Int)) : R Er Cd :=
  (cond (decide ((v_law_row.length : Int) = (0 : Int))) ((((mkR (m_HoldsOnly_init ([] : List Int)))).bind fun y1 => R.ok (Cd.only y1.2)))
((cond (decide ((v_law_row.length : Int) = (1 : Int))) ((((((ixR v_law_row (0 : Int))).bind fun y2 => (R.iff ((([y2] : List Int)).length ≤ 16777216) (mkR (m_HoldsOnly_init ([y2] : List Int)))))).bind fun y3 => R.ok (Cd.only y3.2)))
((cond (decide ((v_law_row.length : Int) = (2 : Int))) ((((((ixR v_law_row (0 : Int))).bind fun y4 => ((ixR v_law_row (1 : Int))).bind fun y5 => (R.iff ((([y4, y5] : List Int)).length ≤ 16777216) (mkR (m_HoldsOnly_init ([y4, y5] : List Int)))))).bind fun y6 => R.ok (Cd.only y6.2)))
((cond (decide ((v_law_row.length : Int) = (3 : Int))) ((((((ixR v_law_row (0 : Int))).bind fun y7 => ((ixR v_law_row (1 : Int))).bind fun y8 => ((ixR v_law_row (2 : Int))).bind fun y9 => (R.iff ((([y7, y8, y9] : List Int)).length ≤ 16777216) (mkR (m_HoldsOnly_init ([y7, y8, y9] : List Int)))))).bind fun y10 => R.ok (Cd.only y10.2)))
((((((ixR v_law_row (0 : Int))).bind fun y11 => ((ixR v_law_row (1 : Int))).bind fun y12 => ((ixR v_law_row (2 : Int))).bind fun y13 => ((ixR v_law_row (3 : Int))).bind fun y14 => ((ixR v_law_row (4 : Int))).bind fun y15 => (R.iff ((([y11, y12, y13, y14, y15] : List Int)).length ≤ 16777216) (mkR (m_HoldsOnly_init ([y11, y12, y13, y14, y15] : List Int)))))).bind fun y16 => R.ok (Cd.only y16.2))))))))))
def m_law_untaken (v_law_row : (List Int)) : R Er Cd :=
  (cond (decide ((v_law_row.length : Int) = (0 : Int))) ((((mkR (m_Untaken_init ([] : List Int)))).bind fun y1 => R.ok (Cd.unt y1.2)))
((cond (decide ((v_law_row.length : Int) = (1 : Int))) ((((((ixR v_law_row (0 : Int))).bind fun y2 => (R.iff ((([y2] : List Int)).length ≤ 16777216) (mkR (m_Untaken_init ([y2] : List Int)))))).bind fun y3 => R.ok (Cd.unt y3.2)))
((cond (decide ((v_law_row.length : Int) = (2 : Int))) ((((((ixR v_law_row (0 : Int))).bind fun y4 => ((ixR v_law_row (1 : Int))).bind fun y5 => (R.iff ((([y4, y5] : List Int)).length ≤ 16777216) (mkR (m_Untaken_init ([y4, y5] : List Int)))))).bind fun y6 => R.ok (Cd.unt y6.2)))
((cond (decide ((v_law_row.length : Int) = (3 : Int))) ((((((ixR v_law_row (0 : Int))).bind fun y7 => ((ixR v_law_row (1 : Int))).bind fun y8 => ((ixR v_law_row (2 : Int))).bind fun y9 => (R.iff ((([y7, y8, y9] : List Int)).length ≤ 16777216) (mkR (m_Untaken_init ([y7, y8, y9] : List Int)))))).bind fun y10 => R.ok (Cd.unt y10.2)))
((((((ixR v_law_row (0 : Int))).bind fun y11 => ((ixR v_law_row (1 : Int))).bind fun y12 => ((ixR v_law_row (2 : Int))).bind fun y13 => ((ixR v_law_row (3 : Int))).bind fun y14 => ((ixR v_law_row (4 : Int))).bind fun y15 => (R.iff ((([y11, y12, y13, y14, y15] : List Int)).length ≤ 16777216) (mkR (m_Untaken_init ([y11, y12, y13, y14, y15] : List Int)))))).bind fun y16 => R.ok (Cd.unt y16.2))))))))))
def m_law_unreleased (v_law_row : (List Int)) : R Er Cd :=
  (cond (decide ((v_law_row.length : Int) = (0 : Int))) ((((mkR (m_Unreleased_init ([] : List Int)))).bind fun y1 => R.ok (Cd.unr y1.2)))
((cond (decide ((v_law_row.length : Int) = (1 : Int))) ((((((ixR v_law_row (0 : Int))).bind fun y2 => (R.iff ((([y2] : List Int)).length ≤ 16777216) (mkR (m_Unreleased_init ([y2] : List Int)))))).bind fun y3 => R.ok (Cd.unr y3.2)))
((cond (decide ((v_law_row.length : Int) = (2 : Int))) ((((((ixR v_law_row (0 : Int))).bind fun y4 => ((ixR v_law_row (1 : Int))).bind fun y5 => (R.iff ((([y4, y5] : List Int)).length ≤ 16777216) (mkR (m_Unreleased_init ([y4, y5] : List Int)))))).bind fun y6 => R.ok (Cd.unr y6.2)))
((cond (decide ((v_law_row.length : Int) = (3 : Int))) ((((((ixR v_law_row (0 : Int))).bind fun y7 => ((ixR v_law_row (1 : Int))).bind fun y8 => ((ixR v_law_row (2 : Int))).bind fun y9 => (R.iff ((([y7, y8, y9] : List Int)).length ≤ 16777216) (mkR (m_Unreleased_init ([y7, y8, y9] : List Int)))))).bind fun y10 => R.ok (Cd.unr y10.2)))
((((((ixR v_law_row (0 : Int))).bind fun y11 => ((ixR v_law_row (1 : Int))).bind fun y12 => ((ixR v_law_row (2 : Int))).bind fun y13 => ((ixR v_law_row (3 : Int))).bind fun y14 => ((ixR v_law_row (4 : Int))).bind fun y15 => (R.iff ((([y11, y12, y13, y14, y15] : List Int)).length ≤ 16777216) (mkR (m_Unreleased_init ([y11, y12, y13, y14, y15] : List Int)))))).bind fun y16 => R.ok (Cd.unr y16.2))))))))))
def m_law_locks (v_law_row : (List Int)) : R Er Cd :=
  (cond (decide ((v_law_row.length : Int) = (0 : Int))) ((((mkR (m_Locks_init ([] : List Int)))).bind fun y1 => R.ok (Cd.locks y1.2)))
((cond (decide ((v_law_row.length : Int) = (1 : Int))) ((((((ixR v_law_row (0 : Int))).bind fun y2 => (R.iff ((([y2] : List Int)).length ≤ 16777216) (mkR (m_Locks_init ([y2] : List Int)))))).bind fun y3 => R.ok (Cd.locks y3.2)))
((cond (decide ((v_law_row.length : Int) = (2 : Int))) ((((((ixR v_law_row (0 : Int))).bind fun y4 => ((ixR v_law_row (1 : Int))).bind fun y5 => (R.iff ((([y4, y5] : List Int)).length ≤ 16777216) (mkR (m_Locks_init ([y4, y5] : List Int)))))).bind fun y6 => R.ok (Cd.locks y6.2)))
((cond (decide ((v_law_row.length : Int) = (3 : Int))) ((((((ixR v_law_row (0 : Int))).bind fun y7 => ((ixR v_law_row (1 : Int))).bind fun y8 => ((ixR v_law_row (2 : Int))).bind fun y9 => (R.iff ((([y7, y8, y9] : List Int)).length ≤ 16777216) (mkR (m_Locks_init ([y7, y8, y9] : List Int)))))).bind fun y10 => R.ok (Cd.locks y10.2)))
((((((ixR v_law_row (0 : Int))).bind fun y11 => ((ixR v_law_row (1 : Int))).bind fun y12 => ((ixR v_law_row (2 : Int))).bind fun y13 => ((ixR v_law_row (3 : Int))).bind fun y14 => ((ixR v_law_row (4 : Int))).bind fun y15 => (R.iff ((([y11, y12, y13, y14, y15] : List Int)).length ≤ 16777216) (mkR (m_Locks_init ([y11, y12, y13, y14, y15] : List Int)))))).bind fun y16 => R.ok (Cd.locks y16.2))))))))))
def m_law_made (v_law_kind : Int) (v_law_row : (List Int)) (v_law_many : (Option Int)) : R Er Cd :=
  (cond (decide (v_law_kind = (0 : Int))) ((R.ok Cd.any))
((cond (cond (decide (v_law_kind = (1 : Int))) v_law_many.isNone false) ((m_law_plain v_law_row))
((cond (decide (v_law_kind = (1 : Int))) ((((optR v_law_many)).bind fun y1 => (m_law_holds v_law_row y1)))
((cond (decide (v_law_kind = (2 : Int))) ((m_law_only v_law_row))
((cond (decide (v_law_kind = (3 : Int))) ((m_law_untaken v_law_row))
((cond (decide (v_law_kind = (4 : Int))) ((m_law_unreleased v_law_row))
((m_law_locks v_law_row)))))))))))))
def m_law_inside_b1 (v_law_other : (List Int)) (t1 : Unit) (x1 : Int) (k : Unit → R Er Bool) : R Er Bool :=
let v_law_item1 := x1
(cond (!memD v_law_item1 v_law_other) ((R.ok false))
((k ())))
def m_law_inside (v_law_row : (List Int)) (v_law_other : (List Int)) : R Er Bool :=
  LK.runC (m_law_inside_b1 v_law_other) () v_law_row fun t2 =>
(R.ok true)
def m_law_truth (v_law_kind : Int) (v_law_row : (List Int)) (v_law_many : (Option Int)) (v_law_item : Int) (v_law_state_here : (List Nat)) : R Er Bool :=
  ((m_law_with v_law_state_here ([104] : List Nat))).bind fun v_law_kept1 =>
((R.mapR (fun x1 => ((R.ok (memD x1 v_law_row)) : R Er Bool)) (fun x1 => ((R.ok x1) : R Er Int)) v_law_kept1)).bind fun v_law_found1 =>
(cond (decide (v_law_kind = (0 : Int))) ((R.ok true))
((cond (cond (decide (v_law_kind = (1 : Int))) v_law_many.isSome false) ((((optR v_law_many)).bind fun y1 => R.ok (decide (y1 ≤ (v_law_found1.length : Int)))))
((cond (decide (v_law_kind = (1 : Int))) ((m_law_inside v_law_row v_law_kept1))
((cond (decide (v_law_kind = (2 : Int))) ((((m_law_inside v_law_row v_law_kept1)).bind fun y2 => (cond y2 (m_law_inside v_law_kept1 v_law_row) (R.ok false))))
((cond (decide (v_law_kind = (5 : Int))) ((R.ok (memD v_law_item v_law_row)))
(((m_law_with v_law_state_here ([104, 114] : List Nat))).bind fun v_law_seen1 =>
((cond (decide (v_law_kind = (4 : Int))) (((m_law_with v_law_state_here ([114] : List Nat))).bind fun v_law_seen3 =>
(R.ok v_law_seen3))
((R.ok v_law_seen1)))).bind fun s6 =>
let v_law_seen2 := s6
(cond (decide (v_law_row = ([] : List Int))) ((R.ok (decide (v_law_seen2 = ([] : List Int)))))
((((m_law_meet v_law_row v_law_seen2)).bind fun y3 => R.ok (!y3))))))))))))))
def m_law_fine (v_law_condition : Cd) (v_law_kind : Int) (v_law_row : (List Int)) (v_law_many : (Option Int)) (v_law_item : Int) (v_law_state_here : (List Nat)) : R Er Bool :=
  (((m_cond 24) v_law_condition (v_law_item, v_law_state_here, ()))).bind fun v_law_actual1 =>
(cond true (((m_law_truth v_law_kind v_law_row v_law_many v_law_item v_law_state_here)).bind fun y1 => R.ok (decide (v_law_actual1 = y1))) (R.ok false))
def m_law_b2 (v_law_row1 : (List Int)) (v_law_many1 : (Option Int)) (v_law_states1 : (List (List Nat))) (v_law_items1 : (List Int)) (v_law_kind1 : Int) (v_law_condition1 : Cd) (t2 : Unit) (x4 : Int) (k : Unit → R Er Bool) : R Er Bool :=
let v_law_k1 := x4
(((((((ixR v_law_items1 v_law_k1)).bind fun y19 => ((ixR v_law_states1 v_law_k1)).bind fun y20 => (m_law_fine v_law_condition1 v_law_kind1 v_law_row1 v_law_many1 y19 y20))).bind fun y21 => R.ok (!y21))).bind fun y22 => cond y22 ((R.ok false))
((k ())))
def m_law_b1 (v_law_row1 : (List Int)) (v_law_many1 : (Option Int)) (v_law_states1 : (List (List Nat))) (v_law_items1 : (List Int)) (t1 : Unit) (x3 : Int) (k : Unit → R Er Bool) : R Er Bool :=
let v_law_kind1 := x3
((m_law_made v_law_kind1 v_law_row1 v_law_many1)).bind fun v_law_condition1 =>
((lenR ([(0 : Int), (1 : Int), (2 : Int), (0 : Int)] : List Int))).bind fun y23 =>
LK.runC (m_law_b2 v_law_row1 v_law_many1 v_law_states1 v_law_items1 v_law_kind1 v_law_condition1) () y23 fun t3 =>
(k ())
def m_law (v_law_script : (List Int)) : R Er Bool :=
  ((((m_law_cell v_law_script (0 : Int))).bind fun y1 => (m_law_numbers y1 (8 : Int) (12 : Int)))).bind fun v_law_plan1 =>
((((m_law_cell v_law_script (1 : Int))).bind fun y2 => (m_law_numbers y2 (5 : Int) (6 : Int)))).bind fun v_law_numbers_here1 =>
((((((((lenR ([(0 : Int), (1 : Int), (2 : Int), (3 : Int), (5 : Int), (1 : Int), (2 : Int), (3 : Int), (2 : Int), (3 : Int), (5 : Int), (1 : Int)] : List Int))).bind fun y3 => ((ixR v_law_plan1 (0 : Int))).bind fun y4 => (ixR y3 y4))).bind fun y5 => R.ok (some y5))).bind fun y6 => R.ok (cutL v_law_numbers_here1 (none : Option Int) y6))).bind fun v_law_row1 =>
((((lenR ([(none : Option Int), (some (0 : Int)), (some (1 : Int)), (some (2 : Int)), (some (3 : Int)), (some (5 : Int))] : List (Option Int)))).bind fun y8 => ((((ixR v_law_plan1 (1 : Int))).bind fun y7 => (modR y7 (6 : Int)))).bind fun y9 => (ixR y8 y9))).bind fun v_law_many1 =>
((((rngR (3 : Int))).bind fun y14 => (R.mapR (fun _ => (R.ok true : R Er Bool)) (fun x1 => ((((m_law_cell v_law_script ((2 : Int) + x1))).bind fun y12 => ((((((ixR v_law_plan1 ((2 : Int) + x1))).bind fun y10 => (modR y10 (6 : Int)))).bind fun y11 => R.ok ((1 : Int) + y11))).bind fun y13 => (m_law_state y12 y13)) : R Er (List Nat))) y14))).bind fun v_law_states1 =>
((((rngR (3 : Int))).bind fun y18 => (R.mapR (fun _ => (R.ok true : R Er Bool)) (fun x2 => ((((ixR v_law_plan1 ((5 : Int) + x2))).bind fun y16 => ((((ixR v_law_states1 x2)).bind fun y15 => R.ok (y15.length : Int))).bind fun y17 => (modR y16 y17)) : R Er Int)) y18))).bind fun v_law_items1 =>
((rngR (6 : Int))).bind fun y24 =>
LK.runC (m_law_b1 v_law_row1 v_law_many1 v_law_states1 v_law_items1) () y24 fun t4 =>
(R.ok true)
end Zk04
namespace Zk04
open PySem L2 LK LKX LKB LJ PL PyProof.Rows PySem.Spec
theorem items_ok {s : List Nat} (h : s.length ≤ 1000) (c : Nat) : m_items_with s [c] = .ok ((its s c).map fun (k : Nat) => (k : Int)) := by
  unfold m_items_with its
  rw [rngR_nat (by omega), R.ok_bind]
  rw [R.mapR_flt (fun x : Int => decide (s[x.toNat]? = some c)) _ (fun x hx => by
    obtain ⟨k, hk, rfl⟩ := mem_rng.mp hx
    rw [ixTR_nat hk, R.ok_bind, inTR_1, Int.toNat_natCast, List.getElem?_eq_getElem hk]
    congr 1
    rw [Bool.eq_iff_iff, decide_eq_true_iff, decide_eq_true_iff, List.mem_singleton, Option.some.injEq]) (fun _ _ _ => rfl), List.filter_map]
  rfl
theorem held_ok {s : List Nat} (h : s.length ≤ 1000) : m_held_items s = .ok ((its s 104).map fun (k : Nat) => (k : Int)) := items_ok h 104
/-- items of a state with a sign, as ints -/
def ii (s : List Nat) (c : Nat) : List Int := (its s c).map fun (k : Nat) => (k : Int)
theorem ii_nd (s : List Nat) (c : Nat) : (ii s c).Nodup := (its_nodup s c).map _ fun a b h e => h (by exact_mod_cast e)
/-- taken items as ints -/
def tkI (s : List Nat) : List Int := (tk s).map fun (k : Nat) => (k : Int)
theorem taken2 {s : List Nat} (h : s.length ≤ 1000) : m_items_with s [104, 114] = .ok (tkI s) := by
  unfold m_items_with tkI tk
  rw [rngR_nat (by omega), R.ok_bind]
  rw [R.mapR_flt (fun x : Int => decide (s[x.toNat]? = some 104) || decide (s[x.toNat]? = some 114)) _ (fun x hx => by
    obtain ⟨k, hk, rfl⟩ := mem_rng.mp hx
    rw [ixTR_nat hk, R.ok_bind, inTR_1, Int.toNat_natCast, List.getElem?_eq_getElem hk]
    congr 1
    rw [Bool.eq_iff_iff, Bool.or_eq_true, decide_eq_true_iff, decide_eq_true_iff, decide_eq_true_iff, List.mem_cons, List.mem_singleton, Option.some.injEq, Option.some.injEq]) (fun _ _ _ => rfl), List.filter_map]
  rfl
theorem taken_ok {s : List Nat} (h : s.length ≤ 1000) : m_taken_items s = .ok (tkI s) := taken2 h
theorem cell_ok (ns : List Int) {k : Int} (h : 0 ≤ k) : ∃ c, m_law_cell ns k = .ok c := by
  unfold m_law_cell
  by_cases hk : k < (ns.length : Int)
  · simp only [hk, decide_true, cond_true]
    exact ⟨_, ixR_ok ⟨by omega, hk⟩⟩
  · simp only [hk, decide_false, cond_false]
    exact ⟨_, rfl⟩
theorem numbers_step (l : Int) (hl : 0 < l ∧ l < 1073741824) (s : Int × List Int × Int) (x : Int) (hs : s.2.1.length < 16777216) : ∃ a y b, 0 ≤ y ∧ y < l ∧ m_law_numbers_s1 l s x = .ok (a, s.2.1 ++ [y], b) := by
  obtain ⟨m, row, left⟩ := s
  have e1 : ∀ a : Int, 0 ≤ a % l ∧ a % l < l := fun a => ⟨Int.emod_nonneg _ (by omega), Int.emod_lt_of_pos _ hl.1⟩
  unfold m_law_numbers_s1
  simp only [mulR_r (x := m) (y := 48271) (by decide), mulR_l (x := 10007) (y := x) (by decide), modR_ok (y := 2147483647) (by decide), R.ok_bind, modR_ok hl.1, divR_ok hl, divR_ok (y := 1021) (by decide), appR_ok (show row.length < 16777216 from hs)]
  by_cases h : 0 < left
  · simp only [h, decide_true, cond_true, R.ok_bind]
    exact ⟨_, _, _, (e1 _).1, (e1 _).2, rfl⟩
  · simp only [h, decide_false, cond_false, R.ok_bind]
    exact ⟨_, _, _, (e1 _).1, (e1 _).2, rfl⟩
theorem numbers_ok (c : Int) {n l : Int} (h0 : 0 ≤ n) (hn : n ≤ 10000) (hl : 0 < l ∧ l < 1073741824) : ∃ row, m_law_numbers c n l = .ok row ∧ row.length = n.toNat ∧ ∀ y ∈ row, 0 ≤ y ∧ y < l := by
  have e : powR 10 18 = .ok ((10 : Int) ^ (18 : Int).toNat) := R.iff_of ⟨by decide, by decide, by decide⟩ _
  unfold m_law_numbers
  obtain ⟨s1, h1⟩ : ∃ s1, (cond (decide ((10 : Int) ^ (18 : Int).toNat ≤ c)) (R.ok (c - (10 : Int) ^ (18 : Int).toNat)) (R.ok 0) : R Er Int) = .ok s1 := by
    cases decide ((10 : Int) ^ (18 : Int).toNat ≤ c) <;> exact ⟨_, rfl⟩
  simp only [e, R.ok_bind, h1, modR_ok (y := 2147483647) (by decide), rngR_ok (n := n) ⟨by omega, by omega⟩]
  obtain ⟨s', e2, p⟩ := R.foldR_inv (m_law_numbers_s1 l) (fun k s => s.2.1.length = k ∧ ∀ y ∈ s.2.1, 0 ≤ y ∧ y < l) (rng n) 0 (c % 2147483647, [], s1) ⟨rfl, fun _ z => nomatch z⟩ (fun j s x hx hp => by
    have hj : j < (rng n).length := (List.getElem?_eq_some_iff.mp hx).1
    rw [rng_len] at hj
    obtain ⟨a, y, b, y0, y1, e⟩ := numbers_step l hl s x (by rw [hp.1]; omega)
    refine ⟨_, e, by simp [hp.1], fun z hz => ?_⟩
    rcases List.mem_append.mp hz with hz | hz
    · exact hp.2 z hz
    · rw [List.mem_singleton.mp hz]; exact ⟨y0, y1⟩)
  rw [rng_len, Nat.zero_add] at p
  exact ⟨s'.2.1, by rw [e2]; rfl, p.1, p.2⟩
def IsSt (s : List Nat) : Prop := ∀ c ∈ s, c = 46 ∨ c = 104 ∨ c = 114
theorem hr_ok {x : Int} (h : 0 ≤ x ∧ x < 3) : ∃ c, ixTR ([46, 104, 114] : List Nat) x = .ok [c] ∧ (c = 46 ∨ c = 104 ∨ c = 114) := by
  have : x = 0 ∨ x = 1 ∨ x = 2 := by omega
  rcases this with rfl | rfl | rfl
  · exact ⟨46, rfl, .inl rfl⟩
  · exact ⟨104, rfl, .inr (.inl rfl)⟩
  · exact ⟨114, rfl, .inr (.inr rfl)⟩
theorem hr_all : ∀ (row : List Int), (∀ y ∈ row, 0 ≤ y ∧ y < 3) → ∃ s : List Nat, s.length = row.length ∧ IsSt s ∧ (R.mapR (fun _ => R.ok true) (fun x => ixTR ([46, 104, 114] : List Nat) x) row : R Er (List (List Nat))) = .ok (s.map fun c => [c])
  | [], _ => ⟨[], rfl, fun _ z => (nomatch z), rfl⟩
  | x :: xs, h => by
    obtain ⟨c, e, hc⟩ := hr_ok (h x List.mem_cons_self)
    obtain ⟨s, h1, h2, h3⟩ := hr_all xs (fun y hy => h y (List.mem_cons_of_mem _ hy))
    refine ⟨c :: s, by simp [h1], fun d hd => ?_, ?_⟩
    · rcases List.mem_cons.mp hd with rfl | hd
      · exact hc
      · exact h2 d hd
    · unfold R.mapR
      rw [e, h3]; rfl
theorem flat1 : ∀ s : List Nat, (s.map fun c => [c]).flatten = s
  | [] => rfl
  | c :: s => by rw [List.map_cons, List.flatten_cons, flat1 s]; rfl
theorem state_ok (c : Int) {n : Int} (h0 : 0 ≤ n) (h6 : n ≤ 6) : ∃ s, m_law_state c n = .ok s ∧ s.length = n.toNat ∧ IsSt s := by
  obtain ⟨row, e, hl, hm⟩ := numbers_ok c h0 (by omega) (l := 3) (by decide)
  obtain ⟨s, h1, h2, h3⟩ := hr_all row hm
  unfold m_law_state
  rw [e]
  simp only [R.ok_bind, h3]
  rw [joinR_ok (by rw [flat1]; omega), flat1]
  exact ⟨s, rfl, by rw [h1, hl], h2⟩
theorem distinct_go : ∀ (l found : List Int), (∀ x ∈ l, 0 ≤ x ∧ x < 6) → found.Nodup → found.length + l.length ≤ 1000 → ∃ b, LK.runC m_distinct_items_b1 found l (fun t => (R.ok t : R Er (List Int))) = .ok b ∧ b.Nodup ∧ ∀ x, x ∈ b ↔ x ∈ found ∨ x ∈ l
  | [], found, _, hn, _ => ⟨found, rfl, hn, fun x => by simp⟩
  | y :: l, found, h, hn, hl => by
    have hy := h y List.mem_cons_self
    rw [List.length_cons] at hl
    have e0 : cond (decide (y < (0 : Int))) true (decide ((6 : Int) ≤ y)) = false := by
      rw [decide_eq_false (by omega), decide_eq_false (by omega)]; rfl
    have es : ∀ k : List Int → R Er (List Int), m_distinct_items_b1 found y k = if y ∈ found then k found else k (found ++ [y]) := fun k => by
      unfold m_distinct_items_b1
      dsimp only
      rw [e0, cond_false]
      by_cases hm : y ∈ found
      · rw [if_pos hm, memD_iff.mpr hm]; rfl
      · rw [if_neg hm, show memD y found = false from decide_eq_false hm, appR_ok (by omega)]; rfl
    show ∃ b, m_distinct_items_b1 found y _ = _ ∧ _
    rw [es]
    by_cases hm : y ∈ found
    · rw [if_pos hm]
      obtain ⟨b, e, n, hb⟩ := distinct_go l found (fun x hx => h x (List.mem_cons_of_mem _ hx)) hn (by omega)
      refine ⟨b, e, n, fun x => (hb x).trans ⟨fun z => z.imp_right (List.mem_cons_of_mem _), fun z => z.elim .inl fun z => ?_⟩⟩
      rcases List.mem_cons.mp z with rfl | z
      · exact .inl hm
      · exact .inr z
    · rw [if_neg hm]
      obtain ⟨b, e, n, hb⟩ := distinct_go l (found ++ [y]) (fun x hx => h x (List.mem_cons_of_mem _ hx)) (List.nodup_append.mpr ⟨hn, by simp, fun a ha c hc e => by
        rw [List.mem_singleton.mp hc] at e; subst e; exact hm ha⟩) (by simp; omega)
      refine ⟨b, e, n, fun x => (hb x).trans ?_⟩
      rw [List.mem_append, List.mem_singleton, List.mem_cons, or_assoc]
theorem distinct_ok {l : List Int} (h : ∀ x ∈ l, 0 ≤ x ∧ x < 6) (hl : l.length ≤ 5) : ∃ b, m_distinct_items l = .ok b ∧ b.Nodup ∧ ∀ x, x ∈ b ↔ x ∈ l := by
  obtain ⟨b, e, n, hb⟩ := distinct_go l [] h List.nodup_nil (by rw [List.length_nil]; omega)
  exact ⟨b, e, n, fun x => (hb x).trans (by simp)⟩
theorem inside_ok (a b : List Int) : m_law_inside a b = .ok (a.all fun x => memD x b) := by
  unfold m_law_inside
  rw [R.runC_test (r := .ok false) (fun x => !memD x b) (fun x _ k => by
    unfold m_law_inside_b1
    dsimp only
    cases memD x b <;> rfl)]
  rw [List.all_eq_not_any_not]
  cases a.any fun x => !memD x b <;> rfl
theorem meet_ok2 (a b : List Int) : m_law_meet a b = .ok (a.any fun x => memD x b) := by
  unfold m_law_meet
  rw [R.runC_test (r := .ok true) (fun x => memD x b) (fun x _ k => by
    unfold m_law_meet_b1
    dsimp only
    cases memD x b <;> rfl)]
  cases a.any fun x => memD x b <;> rfl
def seenC (kind : Int) (s : List Nat) : List Int := if kind = 4 then ii s 114 else tkI s
def truC (kind : Int) (row : List Int) (many : Option Int) (i : Int) (s : List Nat) : Bool :=
  if kind = 0 then true else if kind = 1 then (match many with
    | some m => decide (m ≤ (((ii s 104).filter fun x => memD x row).length : Int))
    | none => row.all fun x => memD x (ii s 104))
  else if kind = 2 then (row.all fun x => memD x (ii s 104)) && (ii s 104).all fun x => memD x row
  else if kind = 5 then memD i row
  else if row = [] then decide (seenC kind s = []) else !row.any fun x => memD x (seenC kind s)
theorem truth_ok (kind : Int) (row : List Int) (many : Option Int) (i : Int) {s : List Nat} (hs : s.length ≤ 1000) : m_law_truth kind row many i s = .ok (truC kind row many i s) := by
  have w1 : m_law_with s [104] = .ok (ii s 104) := items_ok hs 104
  have w2 : m_law_with s [114] = .ok (ii s 114) := items_ok hs 114
  have w3 : m_law_with s [104, 114] = .ok (tkI s) := taken2 hs
  unfold m_law_truth truC
  rw [w1, R.ok_bind, R.mapR_flt (fun x => memD x row) _ (fun _ _ => rfl) (fun _ _ _ => rfl), R.ok_bind]
  by_cases h0 : kind = 0
  · rw [if_pos h0, decide_eq_true h0]; rfl
  rw [if_neg h0, decide_eq_false h0, cond_false]
  by_cases h1 : kind = 1
  · rw [if_pos h1, decide_eq_true h1]
    cases many with
    | some m => rfl
    | none => exact inside_ok _ _
  rw [if_neg h1, decide_eq_false h1]
  simp only [cond_false]
  by_cases h2 : kind = 2
  · rw [if_pos h2, decide_eq_true h2, cond_true, inside_ok, inside_ok, R.ok_bind]
    cases row.all fun x => memD x (ii s 104) <;> rfl
  rw [if_neg h2, decide_eq_false h2, cond_false]
  by_cases h5 : kind = 5
  · rw [if_pos h5, decide_eq_true h5, cond_true]
  rw [if_neg h5, decide_eq_false h5, cond_false, w3, R.ok_bind]
  have e : (cond (decide (kind = (4 : Int))) ((m_law_with s ([114] : List Nat)).bind fun v => (R.ok v : R Er (List Int))) (R.ok (tkI s))) = .ok (seenC kind s) := by
    unfold seenC
    rw [w2]
    by_cases h4 : kind = 4
    · rw [if_pos h4, decide_eq_true h4]; rfl
    · rw [if_neg h4, decide_eq_false h4]; rfl
  rw [e, R.ok_bind]
  by_cases hr : row = []
  · rw [if_pos hr, decide_eq_true hr, cond_true]
  · rw [if_neg hr, decide_eq_false hr, cond_false, meet_ok2]; rfl
theorem heldC {s : List Nat} (hs : s.length ≤ 1000) : m_held_items s = .ok (ii s 104) := held_ok hs
theorem flt_len {a b row : List Int} (ha : a.Nodup) (hb : b.Nodup) (h : ∀ x, x ∈ b ↔ x ∈ row) : (b.filter fun x => memD x a).length = (a.filter fun x => memD x row).length := by
  refine ((List.perm_ext_iff_of_nodup (hb.filter _) (ha.filter _)).mpr fun x => ?_).length_eq
  rw [List.mem_filter, List.mem_filter, memD_iff, memD_iff, h x, and_comm]
theorem all_congr2 {a b : List Int} {p : Int → Bool} (h : ∀ x, x ∈ b ↔ x ∈ a) : b.all p = a.all p := by
  rw [Bool.eq_iff_iff, List.all_eq_true, List.all_eq_true]
  exact ⟨fun z x hx => z x ((h x).mpr hx), fun z x hx => z x ((h x).mp hx)⟩
theorem any_congr2 {a b : List Int} {p : Int → Bool} (h : ∀ x, x ∈ b ↔ x ∈ a) : b.any p = a.any p := by
  rw [Bool.eq_iff_iff, List.any_eq_true, List.any_eq_true]
  exact ⟨fun ⟨x, hx, z⟩ => ⟨x, (h x).mp hx, z⟩, fun ⟨x, hx, z⟩ => ⟨x, (h x).mpr hx, z⟩⟩
theorem nil_congr2 {a b : List Int} (h : ∀ x, x ∈ b ↔ x ∈ a) : b = [] ↔ a = [] := by
  rw [List.eq_nil_iff_forall_not_mem, List.eq_nil_iff_forall_not_mem]
  exact ⟨fun z x hx => z x ((h x).mpr hx), fun z x hx => z x ((h x).mp hx)⟩
theorem holds_call (b : List Int) (m i : Int) {s : List Nat} (hs : s.length ≤ 1000) : m_Holds_call (((), b), m) i s = .ok (decide (m ≤ ((b.filter fun x => memD x (ii s 104)).length : Int))) := by
  unfold m_Holds_call
  rw [heldC hs, R.ok_bind, R.mapR_flt (fun x => memD x (ii s 104)) _ (fun _ _ => rfl) (fun _ _ _ => rfl)]
  rfl
theorem holdsonly_call (b : List Int) (i : Int) {s : List Nat} (hs : s.length ≤ 1000) : m_HoldsOnly_call ((), b) i s = .ok (decide (((ii s 104).length : Int) = (b.length : Int)) && b.all fun x => memD x (ii s 104)) := by
  unfold m_HoldsOnly_call
  rw [heldC hs, R.ok_bind, R.mapR_all (fun x => memD x (ii s 104)) _ (fun _ _ => rfl), R.ok_bind, List.all_map]
  cases decide (((ii s 104).length : Int) = (((), b) : Unit × List Int).2.length) <;> rfl
theorem seen_call (b q : List Int) : (cond (!(!b.isEmpty)) ((((lenR ([] : List Int))).bind fun y1 => R.ok (decide (q = y1))))
((((((R.mapR (fun _ => (R.ok true : R Er Bool)) (fun x1 => ((R.ok (memD x1 q)) : R Er Bool)) b)).bind fun y2 => R.ok (y2.any id))).bind fun y3 => R.ok (!y3))) : R Er Bool) = .ok (if b = [] then decide (q = []) else !b.any fun x => memD x q) := by
  rw [R.mapR_all (fun x => memD x q) _ (fun _ _ => rfl), lenR_ok (by simp)]
  cases b with
  | nil => rfl
  | cons x b =>
    rw [if_neg (List.cons_ne_nil _ _)]
    show R.ok (!((x :: b).map fun x => memD x q).any id) = _
    rw [List.any_map]; rfl
theorem mapR_ex {ε δ α β : Type} {Q : β → Prop} {f : α → R ε β} : ∀ {xs : List α}, (∀ x ∈ xs, ∃ y, f x = .ok y ∧ Q y) → ∃ ys : List β, (R.mapR (fun _ => (R.ok true : R ε Bool)) f xs : R δ (List β)) = .ok ys ∧ ys.length = xs.length ∧ ∀ y ∈ ys, Q y
  | [], _ => ⟨[], rfl, rfl, fun _ z => (nomatch z)⟩
  | x :: xs, h => by
    obtain ⟨y, e, hy⟩ := h x List.mem_cons_self
    obtain ⟨ys, e2, hl, hq⟩ := mapR_ex (δ := δ) fun z hz => h z (List.mem_cons_of_mem _ hz)
    refine ⟨y :: ys, ?_, by simp [hl], fun z hz => ?_⟩
    · unfold R.mapR
      rw [e, e2]; rfl
    · rcases List.mem_cons.mp hz with rfl | hz
      · exact hy
      · exact hq z hz
theorem rowcut {nums : List Int} (hn : nums.length = 5) {a : Int} (ha : a ∈ ([0, 1, 2, 3, 5, 1, 2, 3, 2, 3, 5, 1] : List Int)) : (cutL nums (none : Option Int) (some a)).length ∈ ([0, 1, 2, 3, 5] : List Nat) := by
  rw [cutL_nn _ (show 0 ≤ a by simp at ha; omega), List.length_take, hn]
  simp at ha ⊢
  omega
theorem rowlen {P : List Int → Prop} (h0 : P []) (h1 : ∀ a, P [a]) (h2 : ∀ a b, P [a, b]) (h3 : ∀ a b c, P [a, b, c]) (h5 : ∀ a b c d e, P [a, b, c, d, e]) {row : List Int} (h : row.length ∈ ([0, 1, 2, 3, 5] : List Nat)) : P row := by
  match row, h with
  | [], _ => exact h0
  | [a], _ => exact h1 a
  | [a, b], _ => exact h2 a b
  | [a, b, c], _ => exact h3 a b c
  | [a, b, c, d], h => simp at h
  | [a, b, c, d, e], _ => exact h5 a b c d e
  | a :: b :: c :: d :: e :: f :: r, h => simp at h
theorem plain_eq {row : List Int} (h : row.length ∈ ([0, 1, 2, 3, 5] : List Nat)) : m_law_plain row = (mkR (m_Holds_init none row)).bind fun y => .ok (Cd.holds y.1.2 y.2) :=
  rowlen (P := fun row => m_law_plain row = (mkR (m_Holds_init none row)).bind fun y => .ok (Cd.holds y.1.2 y.2)) rfl (fun _ => rfl) (fun _ _ => rfl) (fun _ _ _ => rfl) (fun _ _ _ _ _ => rfl) h
theorem holds_eq {row : List Int} (m : Int) (h : row.length ∈ ([0, 1, 2, 3, 5] : List Nat)) : m_law_holds row m = (mkR (m_Holds_init (some m) row)).bind fun y => .ok (Cd.holds y.1.2 y.2) :=
  rowlen (P := fun row => m_law_holds row m = (mkR (m_Holds_init (some m) row)).bind fun y => .ok (Cd.holds y.1.2 y.2)) rfl (fun _ => rfl) (fun _ _ => rfl) (fun _ _ _ => rfl) (fun _ _ _ _ _ => rfl) h
theorem only_eq {row : List Int} (h : row.length ∈ ([0, 1, 2, 3, 5] : List Nat)) : m_law_only row = (mkR (m_HoldsOnly_init row)).bind fun y => .ok (Cd.only y.2) :=
  rowlen (P := fun row => m_law_only row = (mkR (m_HoldsOnly_init row)).bind fun y => .ok (Cd.only y.2)) rfl (fun _ => rfl) (fun _ _ => rfl) (fun _ _ _ => rfl) (fun _ _ _ _ _ => rfl) h
theorem unt_eq {row : List Int} (h : row.length ∈ ([0, 1, 2, 3, 5] : List Nat)) : m_law_untaken row = (mkR (m_Untaken_init row)).bind fun y => .ok (Cd.unt y.2) :=
  rowlen (P := fun row => m_law_untaken row = (mkR (m_Untaken_init row)).bind fun y => .ok (Cd.unt y.2)) rfl (fun _ => rfl) (fun _ _ => rfl) (fun _ _ _ => rfl) (fun _ _ _ _ _ => rfl) h
theorem unr_eq {row : List Int} (h : row.length ∈ ([0, 1, 2, 3, 5] : List Nat)) : m_law_unreleased row = (mkR (m_Unreleased_init row)).bind fun y => .ok (Cd.unr y.2) :=
  rowlen (P := fun row => m_law_unreleased row = (mkR (m_Unreleased_init row)).bind fun y => .ok (Cd.unr y.2)) rfl (fun _ => rfl) (fun _ _ => rfl) (fun _ _ _ => rfl) (fun _ _ _ _ _ => rfl) h
theorem locks_eq {row : List Int} (h : row.length ∈ ([0, 1, 2, 3, 5] : List Nat)) : m_law_locks row = (mkR (m_Locks_init row)).bind fun y => .ok (Cd.locks y.2) :=
  rowlen (P := fun row => m_law_locks row = (mkR (m_Locks_init row)).bind fun y => .ok (Cd.locks y.2)) rfl (fun _ => rfl) (fun _ _ => rfl) (fun _ _ _ => rfl) (fun _ _ _ _ _ => rfl) h
theorem made_ok {kind : Int} (hk : 0 ≤ kind ∧ kind < 6) {row : List Int} (h : ∀ x ∈ row, 0 ≤ x ∧ x < 6) (hl : row.length ∈ ([0, 1, 2, 3, 5] : List Nat)) (many : Option Int) : ∃ c, m_law_made kind row many = .ok c ∧ ∀ (q : Nat) (i : Int) (s : List Nat), s.length ≤ 1000 → m_cond (q + 1) c (i, s, ()) = .ok (truC kind row many i s) := by
  obtain ⟨b, eb, nb, hb⟩ := distinct_ok h (by
    simp only [List.mem_cons, List.not_mem_nil, or_false] at hl; omega)
  have kinds : kind = 0 ∨ kind = 1 ∨ kind = 2 ∨ kind = 3 ∨ kind = 4 ∨ kind = 5 := by omega
  rcases kinds with rfl | rfl | rfl | rfl | rfl | rfl
  · exact ⟨_, rfl, fun _ _ _ _ => rfl⟩
  · cases many with
    | none =>
      refine ⟨Cd.holds b (b.length : Int), ?_, fun q i s hs => ?_⟩
      · show m_law_plain row = _
        rw [plain_eq hl]
        unfold m_Holds_init
        rw [eb]; rfl
      · refine (holds_call b _ i hs).trans (congrArg R.ok ?_)
        show decide _ = row.all _
        rw [← all_congr2 hb, Bool.eq_iff_iff, decide_eq_true_iff, List.all_eq_true]
        constructor
        · intro z
          have e : (b.filter fun x => memD x (ii s 104)).length = b.length := Nat.le_antisymm (List.length_filter_le _ _) (by omega)
          exact List.length_filter_eq_length_iff.mp e
        · intro z
          rw [List.length_filter_eq_length_iff.mpr z]; exact Int.le_refl _
    | some m =>
      refine ⟨Cd.holds b m, ?_, fun q i s hs => ?_⟩
      · show m_law_holds row m = _
        rw [holds_eq m hl]
        unfold m_Holds_init
        rw [eb]; rfl
      · refine (holds_call b _ i hs).trans (congrArg R.ok ?_)
        rw [flt_len (ii_nd s 104) nb hb]; rfl
  · refine ⟨Cd.only b, ?_, fun q i s hs => ?_⟩
    · show m_law_only row = _
      rw [only_eq hl]
      unfold m_HoldsOnly_init
      rw [eb]; rfl
    · refine (holdsonly_call b i hs).trans (congrArg R.ok ?_)
      show _ = (row.all (fun x => memD x (ii s 104)) && (ii s 104).all fun x => memD x row)
      rw [← all_congr2 hb, Bool.eq_iff_iff, Bool.and_eq_true, Bool.and_eq_true, decide_eq_true_iff, List.all_eq_true, List.all_eq_true, and_comm]
      refine and_congr_right fun z => ?_
      have e1 := flt_len (ii_nd s 104) nb hb
      rw [List.length_filter_eq_length_iff.mpr z] at e1
      constructor
      · intro e
        exact List.length_filter_eq_length_iff.mp (by omega)
      · intro z2
        rw [List.length_filter_eq_length_iff.mpr z2] at e1
        omega
  · refine ⟨Cd.unt b, ?_, fun q i s hs => ?_⟩
    · show m_law_untaken row = _
      rw [unt_eq hl]
      unfold m_Untaken_init
      rw [eb]; rfl
    · show m_Untaken_call ((), b) i s = _
      unfold m_Untaken_call
      rw [taken_ok hs, R.ok_bind]
      refine (seen_call b _).trans (congrArg R.ok ?_)
      show _ = if row = [] then decide (tkI s = []) else !row.any fun x => memD x (tkI s)
      rw [any_congr2 hb]
      simp only [nil_congr2 hb]
  · refine ⟨Cd.unr b, ?_, fun q i s hs => ?_⟩
    · show m_law_unreleased row = _
      rw [unr_eq hl]
      unfold m_Unreleased_init
      rw [eb]; rfl
    · show m_Unreleased_call ((), b) i s = _
      unfold m_Unreleased_call m_released_items
      rw [show m_items_with s [114] = .ok (ii s 114) from items_ok hs 114, R.ok_bind]
      refine (seen_call b _).trans (congrArg R.ok ?_)
      show _ = if row = [] then decide (ii s 114 = []) else !row.any fun x => memD x (ii s 114)
      rw [any_congr2 hb]
      simp only [nil_congr2 hb]
  · refine ⟨Cd.locks b, ?_, fun q i s hs => ?_⟩
    · show m_law_locks row = _
      rw [locks_eq hl]
      unfold m_Locks_init
      rw [eb]; rfl
    · show R.ok (memD i b) = _
      rw [memD_congr (hb i)]; rfl
end Zk04
namespace Zk04
open PySem L2 LK LKX LKB LJ PL PyProof.Rows PySem.Spec
theorem law_true (ns : List Int) (_h : ns.length ≤ 63) : m_law ns = .ok true := by
  obtain ⟨c0, e0⟩ := cell_ok ns (k := 0) (by omega)
  obtain ⟨plan, ep, hp, pl⟩ := numbers_ok c0 (n := 8) (l := 12) (by omega) (by omega) (by omega)
  obtain ⟨c1, e1⟩ := cell_ok ns (k := 1) (by omega)
  obtain ⟨nums, en, hn, nl⟩ := numbers_ok c1 (n := 5) (l := 6) (by omega) (by omega) (by omega)
  have hp : plan.length = 8 := hp
  have hn : nums.length = 5 := hn
  have pa : ∀ i : Int, 0 ≤ i → i < 8 → ∃ y, ixR plan i = .ok y ∧ 0 ≤ y ∧ y < 12 := fun i h1 h2 => by
    obtain ⟨y, hy, e⟩ := ixR_mem (x := plan) (i := i) ⟨h1, by omega⟩
    exact ⟨y, e, pl y hy⟩
  obtain ⟨q0, eq0, q0l⟩ := pa 0 (by omega) (by omega)
  obtain ⟨q1, eq1, q1l⟩ := pa 1 (by omega) (by omega)
  obtain ⟨a, ha, ea⟩ := ixR_mem (x := [(0 : Int), 1, 2, 3, 5, 1, 2, 3, 2, 3, 5, 1]) (i := q0) ⟨q0l.1, by simp; omega⟩
  obtain ⟨many, hm, em⟩ := ixR_mem (x := [(none : Option Int), some 0, some 1, some 2, some 3, some 5]) (i := q1 % 6) ⟨by omega, by simp; omega⟩
  have hrow : ∀ x ∈ cutL nums (none : Option Int) (some a), 0 ≤ x ∧ x < 6 := fun x hx => nl x (cutL_mem hx)
  have hlen := rowcut hn ha
  obtain ⟨sts, es, sl, sp⟩ := mapR_ex (δ := Er) (Q := fun s : List Nat => 1 ≤ s.length ∧ s.length ≤ 6) (f := fun x1 => ((((m_law_cell ns ((2 : Int) + x1))).bind fun y12 => ((((((ixR plan ((2 : Int) + x1))).bind fun y10 => (modR y10 (6 : Int)))).bind fun y11 => R.ok ((1 : Int) + y11))).bind fun y13 => (m_law_state y12 y13)) : R Er (List Nat))) (xs := [0, 1, 2]) (fun x hx => by
    have hx : 0 ≤ x ∧ x < 3 := by simp at hx; omega
    obtain ⟨c, ec⟩ := cell_ok ns (k := 2 + x) (by omega)
    obtain ⟨q, eq, ql⟩ := pa (2 + x) (by omega) (by omega)
    obtain ⟨s, e, l, _⟩ := state_ok c (n := 1 + q % 6) (by omega) (by omega)
    refine ⟨s, ?_, by omega, by omega⟩
    rw [ec, R.ok_bind, eq, R.ok_bind, modR_ok (by decide), R.ok_bind, R.ok_bind, e])
  have sl : sts.length = 3 := sl
  have sa : ∀ i : Int, 0 ≤ i → i < 3 → ∃ s, ixR sts i = .ok s ∧ 1 ≤ s.length ∧ s.length ≤ 6 := fun i h1 h2 => by
    obtain ⟨y, hy, e⟩ := ixR_mem (x := sts) (i := i) ⟨h1, by omega⟩
    exact ⟨y, e, sp y hy⟩
  obtain ⟨its, ei, il, _⟩ := mapR_ex (δ := Er) (Q := fun _ : Int => True) (f := fun x2 => ((((ixR plan ((5 : Int) + x2))).bind fun y16 => ((((ixR sts x2)).bind fun y15 => R.ok (y15.length : Int))).bind fun y17 => (modR y16 y17)) : R Er Int)) (xs := [0, 1, 2]) (fun x hx => by
    have hx : 0 ≤ x ∧ x < 3 := by simp at hx; omega
    obtain ⟨q, eq, ql⟩ := pa (5 + x) (by omega) (by omega)
    obtain ⟨s, e, l1, l2⟩ := sa x (by omega) (by omega)
    refine ⟨q % (s.length : Int), ?_, trivial⟩
    rw [eq, R.ok_bind, e, R.ok_bind, R.ok_bind, modR_ok (by omega)])
  have il : its.length = 3 := il
  have r3 : (rngR (3 : Int) : R Er (List Int)) = .ok [0, 1, 2] := rfl
  unfold m_law
  rw [e0, R.ok_bind, ep, R.ok_bind, e1, R.ok_bind, en, R.ok_bind, lenR_ok (by simp), R.ok_bind, eq0, R.ok_bind, ea]
  simp only [R.ok_bind]
  rw [lenR_ok (by simp), R.ok_bind, eq1, R.ok_bind, modR_ok (by decide), R.ok_bind, em, R.ok_bind, r3, R.ok_bind, es, R.ok_bind, R.ok_bind, ei, R.ok_bind]
  rw [show (rngR (6 : Int) : R Er (List Int)) = .ok [0, 1, 2, 3, 4, 5] from rfl, R.ok_bind]
  refine R.runC_unit fun kind hk k => ?_
  have hk : 0 ≤ kind ∧ kind < 6 := by simp at hk; omega
  obtain ⟨c, ec, hc⟩ := made_ok hk hrow hlen many
  unfold m_law_b1
  dsimp only
  rw [ec, R.ok_bind, lenR_ok (by simp), R.ok_bind]
  refine R.runC_unit fun j hj k => ?_
  have hj : 0 ≤ j ∧ j < 3 := by simp at hj; omega
  obtain ⟨s, e, l1, l2⟩ := sa j hj.1 hj.2
  obtain ⟨i, _, e2⟩ := ixR_mem (x := its) (i := j) ⟨hj.1, by omega⟩
  unfold m_law_b2 m_law_fine
  dsimp only
  rw [e2, R.ok_bind, e, R.ok_bind, hc 23 i s (by omega), R.ok_bind, truth_ok _ _ _ _ (by omega), cond_true, R.ok_bind, R.ok_bind, R.ok_bind, decide_eq_true rfl]
  rfl
end Zk04
namespace Zk04
open PySem L2 LK LKX LKB LJ LG PyProof.Rows PySem.Spec
local macro_rules | `(tactic| walk_at "lw") => `(tactic| (repeat (first | exact lw_nil | refine lw_no ?_ | refine lw_eq rfl ?_)))
def top (i : Nat) : Stmt := PySem.Challenge.pw_lockrules_k04_one_condition.main.body.getD i (.Pass ⟨0, 0, 0, 0⟩)
structure Bt (P : Program) (w : World) (K : PySem.W.Frag) (mg : Str → Option Value) (xt : XT) : Prop where
  z_tuple : mg "tuple" = none
  z_range : mg "range" = none
  z_len : mg "len" = none
  z_all : mg "all" = none
  z_any : mg "any" = none
  z_int : mg "int" = none
  z_isinstance : mg "isinstance" = none
  z_bool : mg "bool" = none
  c_LARGEST : ∃ u, mg "LARGEST" = some u ∧ RelV (.int 6) u
  x_BadItem : XK1 P w K mg xt "BadItem" 1 "item"
  gm_Condition : mg "Condition" = some (.ref (xt.cls 110))
  cl_Condition : Cls K (xt.cls 110)
  gm_Both : mg "Both" = some (.ref (xt.cls 111))
  cl_Both : Cls K (xt.cls 111)
  no_Both_first : NoAttr K (xt.cls 111) "first"
  no_Both_second : NoAttr K (xt.cls 111) "second"
  gm_Either : mg "Either" = some (.ref (xt.cls 112))
  cl_Either : Cls K (xt.cls 112)
  no_Either_first : NoAttr K (xt.cls 112) "first"
  no_Either_second : NoAttr K (xt.cls 112) "second"
  gm_Opposite : mg "Opposite" = some (.ref (xt.cls 113))
  cl_Opposite : Cls K (xt.cls 113)
  no_Opposite_inner : NoAttr K (xt.cls 113) "inner"
  gm_Holds : mg "Holds" = some (.ref (xt.cls 114))
  cl_Holds : Cls K (xt.cls 114)
  no_Holds_needed : NoAttr K (xt.cls 114) "needed"
  no_Holds_least : NoAttr K (xt.cls 114) "least"
  gm_HoldsOnly : mg "HoldsOnly" = some (.ref (xt.cls 115))
  cl_HoldsOnly : Cls K (xt.cls 115)
  no_HoldsOnly_exact : NoAttr K (xt.cls 115) "exact"
  gm_Untaken : mg "Untaken" = some (.ref (xt.cls 116))
  cl_Untaken : Cls K (xt.cls 116)
  no_Untaken_listed : NoAttr K (xt.cls 116) "listed"
  gm_Unreleased : mg "Unreleased" = some (.ref (xt.cls 117))
  cl_Unreleased : Cls K (xt.cls 117)
  no_Unreleased_listed : NoAttr K (xt.cls 117) "listed"
  gm_Locks : mg "Locks" = some (.ref (xt.cls 118))
  cl_Locks : Cls K (xt.cls 118)
  no_Locks_listed : NoAttr K (xt.cls 118) "listed"
  mi_Condition : Mk00 K (xt.cls 110)
  g_BadItem : mg "BadItem" = some (.ref (xt.cls 1))
section
variable {P : Program} {w : World} {K : PySem.W.Frag} {mg : Str → Option Value} {base : Heap} {xt : XT}
abbrev st_m_items_with : Stmt := top 5
theorem sc_m_items_with : FnScope ["state", "signs", "item"] ["state", "signs"] (defScope st_m_items_with) := ⟨rfl, rfl, rfl, by decide +kernel, rfl, by decide +kernel, by decide +kernel⟩
set_option maxHeartbeats 4000000 in
theorem ok_m_items_with (B : Bt P w K mg xt) {fa : Addr} {fd : FuncData} (Fn : Fun K "items_with" "items_with" st_m_items_with fa fd) : FnOk P w K mg base (L2.CX P w) 1 fa fd ["state", "signs"] (spR xt (Pt.cons .sh rTx inferInstance (Pt.cons .sh rTx inferInstance Pt.nil)) (fun (a : ((List Nat) × (List Nat) × Unit)) => m_items_with a.1 a.2.1) (fun b => sF (rTup rInt) b)) := by
  refine ok_R (S' := Unit) 1 Fn sc_m_items_with rfl rfl (fun _ => .no) (fun _ _ h => nomatch h) (fun _ _ h => nomatch h) (fun cdv A outer s0 H E0_ hr a => ?_)
  obtain ⟨v_state, v_signs, ⟨⟩⟩ := a
  refine ⟨fun _ => List.replicate 3 .no, _, (xb_ret () (lw_nos rfl) (fun a => a) (fun _ => rfl) (xn (xtupL (xfz (xnlc (xlc [("item", 2)] (fun x1 => [sF rTx v_state, sF rTx v_signs, sF rInt x1]) (xi_rng (xlenT (xv 0) B.z_len) B.z_range) (fun _ _ _ _ _ => (xg_name 2)) (fun _ => rfl) (fun _ _ _ _ _ x1 => (xqs1 (xqc (xinT (xixT (xv 0) (xv 2)) (xv 1))))) (fun _ _ _ _ _ x1 => (xv 2)) (ok := (by decide +kernel : blkC ["state", "signs", "item"] (defScope st_m_items_with) _ [("item", 2)] = true))))) B.z_tuple))), ?_⟩
  all_goals (show _ = m_items_with v_state v_signs; unfold m_items_with; first | (simp only [R.bindOk, R.bindEr, R.bindNo, R.thnOk, R.thnEr, R.thnNo, R.thn_id, R.bind_bind, R.thn_bind, R.bind_ok, R.cond_ok, R.noerOk, R.bind_thn, R.thn_thn, cond_true, cond_false]; done) | rfl)
abbrev st_m_held_items : Stmt := top 6
theorem sc_m_held_items : FnScope ["state"] ["state"] (defScope st_m_held_items) := ⟨rfl, rfl, rfl, by decide +kernel, rfl, by decide +kernel, by decide +kernel⟩
set_option maxHeartbeats 4000000 in
theorem ok_m_held_items (B : Bt P w K mg xt) {fa : Addr} {fd : FuncData} (Fn : Fun K "held_items" "held_items" st_m_held_items fa fd) {a_items_with : Addr} {d_items_with : FuncData} (C_items_with : Cal K mg "items_with" a_items_with d_items_with ["state", "signs"]) (G_items_with : FnOk P w K mg base (L2.CX P w) 1 a_items_with d_items_with ["state", "signs"] (spR xt (Pt.cons .sh rTx inferInstance (Pt.cons .sh rTx inferInstance Pt.nil)) (fun (a : ((List Nat) × (List Nat) × Unit)) => m_items_with a.1 a.2.1) (fun b => sF (rTup rInt) b))) : FnOk P w K mg base (L2.CX P w) 2 fa fd ["state"] (spR xt (Pt.cons .sh rTx inferInstance Pt.nil) (fun (a : ((List Nat) × Unit)) => m_held_items a.1) (fun b => sF (rTup rInt) b)) := by
  refine ok_R (S' := Unit) 0 Fn sc_m_held_items rfl rfl (fun _ => .no) (fun _ _ h => nomatch h) (fun _ _ h => nomatch h) (fun cdv A outer s0 H E0_ hr a => ?_)
  obtain ⟨v_state, ⟨⟩⟩ := a
  refine ⟨fun _ => List.replicate 1 .no, _, (xb_ret () (lw_nos rfl) (fun a => a) (fun _ => rfl) (xn (xsh (xcall C_items_with G_items_with hr (xa_cons (xv 0) (xa_cons (xtx [104]) xa_nil)))))), ?_⟩
  all_goals (show _ = m_held_items v_state; unfold m_held_items; first | (simp only [R.bindOk, R.bindEr, R.bindNo, R.thnOk, R.thnEr, R.thnNo, R.thn_id, R.bind_bind, R.thn_bind, R.bind_ok, R.cond_ok, R.noerOk, R.bind_thn, R.thn_thn, cond_true, cond_false]; done) | rfl)
abbrev st_m_released_items : Stmt := top 7
theorem sc_m_released_items : FnScope ["state"] ["state"] (defScope st_m_released_items) := ⟨rfl, rfl, rfl, by decide +kernel, rfl, by decide +kernel, by decide +kernel⟩
set_option maxHeartbeats 4000000 in
theorem ok_m_released_items (B : Bt P w K mg xt) {fa : Addr} {fd : FuncData} (Fn : Fun K "released_items" "released_items" st_m_released_items fa fd) {a_items_with : Addr} {d_items_with : FuncData} (C_items_with : Cal K mg "items_with" a_items_with d_items_with ["state", "signs"]) (G_items_with : FnOk P w K mg base (L2.CX P w) 1 a_items_with d_items_with ["state", "signs"] (spR xt (Pt.cons .sh rTx inferInstance (Pt.cons .sh rTx inferInstance Pt.nil)) (fun (a : ((List Nat) × (List Nat) × Unit)) => m_items_with a.1 a.2.1) (fun b => sF (rTup rInt) b))) : FnOk P w K mg base (L2.CX P w) 2 fa fd ["state"] (spR xt (Pt.cons .sh rTx inferInstance Pt.nil) (fun (a : ((List Nat) × Unit)) => m_released_items a.1) (fun b => sF (rTup rInt) b)) := by
  refine ok_R (S' := Unit) 0 Fn sc_m_released_items rfl rfl (fun _ => .no) (fun _ _ h => nomatch h) (fun _ _ h => nomatch h) (fun cdv A outer s0 H E0_ hr a => ?_)
  obtain ⟨v_state, ⟨⟩⟩ := a
  refine ⟨fun _ => List.replicate 1 .no, _, (xb_ret () (lw_nos rfl) (fun a => a) (fun _ => rfl) (xn (xsh (xcall C_items_with G_items_with hr (xa_cons (xv 0) (xa_cons (xtx [114]) xa_nil)))))), ?_⟩
  all_goals (show _ = m_released_items v_state; unfold m_released_items; first | (simp only [R.bindOk, R.bindEr, R.bindNo, R.thnOk, R.thnEr, R.thnNo, R.thn_id, R.bind_bind, R.thn_bind, R.bind_ok, R.cond_ok, R.noerOk, R.bind_thn, R.thn_thn, cond_true, cond_false]; done) | rfl)
abbrev st_m_taken_items : Stmt := top 8
theorem sc_m_taken_items : FnScope ["state"] ["state"] (defScope st_m_taken_items) := ⟨rfl, rfl, rfl, by decide +kernel, rfl, by decide +kernel, by decide +kernel⟩
set_option maxHeartbeats 4000000 in
theorem ok_m_taken_items (B : Bt P w K mg xt) {fa : Addr} {fd : FuncData} (Fn : Fun K "taken_items" "taken_items" st_m_taken_items fa fd) {a_items_with : Addr} {d_items_with : FuncData} (C_items_with : Cal K mg "items_with" a_items_with d_items_with ["state", "signs"]) (G_items_with : FnOk P w K mg base (L2.CX P w) 1 a_items_with d_items_with ["state", "signs"] (spR xt (Pt.cons .sh rTx inferInstance (Pt.cons .sh rTx inferInstance Pt.nil)) (fun (a : ((List Nat) × (List Nat) × Unit)) => m_items_with a.1 a.2.1) (fun b => sF (rTup rInt) b))) : FnOk P w K mg base (L2.CX P w) 2 fa fd ["state"] (spR xt (Pt.cons .sh rTx inferInstance Pt.nil) (fun (a : ((List Nat) × Unit)) => m_taken_items a.1) (fun b => sF (rTup rInt) b)) := by
  refine ok_R (S' := Unit) 0 Fn sc_m_taken_items rfl rfl (fun _ => .no) (fun _ _ h => nomatch h) (fun _ _ h => nomatch h) (fun cdv A outer s0 H E0_ hr a => ?_)
  obtain ⟨v_state, ⟨⟩⟩ := a
  refine ⟨fun _ => List.replicate 1 .no, _, (xb_ret () (lw_nos rfl) (fun a => a) (fun _ => rfl) (xn (xsh (xcall C_items_with G_items_with hr (xa_cons (xv 0) (xa_cons (xtx [104, 114]) xa_nil)))))), ?_⟩
  all_goals (show _ = m_taken_items v_state; unfold m_taken_items; first | (simp only [R.bindOk, R.bindEr, R.bindNo, R.thnOk, R.thnEr, R.thnNo, R.thn_id, R.bind_bind, R.thn_bind, R.bind_ok, R.cond_ok, R.noerOk, R.bind_thn, R.thn_thn, cond_true, cond_false]; done) | rfl)
abbrev st_m_distinct_items : Stmt := top 10
theorem sc_m_distinct_items : FnScope ["listed", "found", "item"] ["listed"] (defScope st_m_distinct_items) := ⟨rfl, rfl, rfl, by decide +kernel, rfl, by decide +kernel, by decide +kernel⟩
set_option maxHeartbeats 4000000 in
theorem ok_m_distinct_items (B : Bt P w K mg xt) {fa : Addr} {fd : FuncData} (Fn : Fun K "distinct_items" "distinct_items" st_m_distinct_items fa fd) : FnOk P w K mg base (L2.CX P w) 2 fa fd ["listed"] (spR xt (Pt.cons .sh (rTup rInt) inferInstance Pt.nil) (fun (a : ((List Int) × Unit)) => m_distinct_items a.1) (fun b => sL rInt b)) := by
  refine ok_R (S' := Unit) 2 Fn sc_m_distinct_items rfl rfl (fun _ => .no) (fun _ _ h => nomatch h) (fun _ _ h => nomatch h) (fun cdv A outer s0 H E0_ hr a => ?_)
  obtain ⟨v_listed, ⟨⟩⟩ := a
  refine ⟨fun _ => List.replicate 3 .no, _, (xb_set 1 (fun v_found1 => [sF (rTup rInt) v_listed, sL rInt v_found1, .no]) () (lw_nos rfl) (xn_nil (r := rInt)) (fun _ => rfl) (fun v_found1 =>
(xb_for (T := (List Int)) (m_distinct_items_b1) (fun t1 => [sF (rTup rInt) v_listed, sL rInt t1, .no]) v_found1 () (lw_nos rfl) (by walk_at "lw") cnD_po (xi_tup (xv 0)) (xg_name 2) (fun t1 x1 => [sF (rTup rInt) v_listed, sL rInt t1, sF rInt x1]) (fun _ _ => rfl) (fun t1 x1 => XB.cast
(xb_if (S := Unit) (slj := (fun s1 => [sF (rTup rInt) v_listed, sL rInt t1, sF rInt x1])) () (lw_nos rfl) (xqw (xqor (xqc (xlt (xv 2) xint)) (xqor1 (xqc (xge (xv 2) (xglob (r := rInt) B.c_LARGEST (fun _ => rfl)))))))
(xb_raise1 () (lw_nos rfl) B.x_BadItem.toXk hr (xv 2))
(xb_nil () (by walk_at "lw")) (fun s1 =>
(xb_if () (lw_nos rfl) (xqc (xniL (xv 2) (xvm (mu := mL rInt) 1)))
(xb_app 1 (fun v_found3 => [sF (rTup rInt) v_listed, sL rInt v_found3, sF rInt x1]) () (lw_nos rfl) rfl (xv 2) (fun _ => rfl) (fun v_found3 =>
(xb_nil v_found3 (by walk_at "lw"))))
(xb_nil t1 (by walk_at "lw")) (fun s => xb_nil s (Lw.refl _))))) (fun k => by unfold m_distinct_items_b1; first | (simp only [R.bindOk, R.bindEr, R.bindNo, R.thnOk, R.thnEr, R.thnNo, R.thn_id, R.bind_bind, R.thn_bind, R.bind_ok, R.cond_ok, R.noerOk, R.bind_thn, R.thn_thn, cond_true, cond_false]; done) | rfl)) (fun t2 =>
(xb_retO 1 () rfl t2 rfl (lw_nos rfl)))))), ?_⟩
  all_goals (show _ = m_distinct_items v_listed; unfold m_distinct_items; first | (simp only [R.bindOk, R.bindEr, R.bindNo, R.thnOk, R.thnEr, R.thnNo, R.thn_id, R.bind_bind, R.thn_bind, R.bind_ok, R.cond_ok, R.noerOk, R.bind_thn, R.thn_thn, cond_true, cond_false]; done) | rfl)
abbrev st_m_Condition_call : Stmt := inClass (top 11) 0
theorem sc_m_Condition_call : FnScope ["self", "item", "state"] ["self", "item", "state"] (defScope st_m_Condition_call) := ⟨rfl, rfl, rfl, by decide +kernel, rfl, by decide +kernel, by decide +kernel⟩
set_option maxHeartbeats 4000000 in
theorem ok_m_Condition_call (B : Bt P w K mg xt) {fa : Addr} {fd : FuncData} (Fn : Fun K "__call__" "Condition.__call__" st_m_Condition_call fa fd) : FnOk P w K mg base (L2.CX P w) 1 fa fd ["self", "item", "state"] (spR xt (Pt.cons .sh (rR (xt.cls 110) Rc.nil) inferInstance (Pt.cons .sh rInt inferInstance (Pt.cons .sh rTx inferInstance Pt.nil))) (fun (a : (Unit × Int × (List Nat) × Unit)) => m_Condition_call a.1 a.2.1 a.2.2.1) (fun b => sF rBl b)) := by
  refine ok_R (S' := Unit) 0 Fn sc_m_Condition_call rfl rfl (fun _ => .no) (fun _ _ h => nomatch h) (fun _ _ h => nomatch h) (fun cdv A outer s0 H E0_ hr a => ?_)
  obtain ⟨v_self, v_item, v_state, ⟨⟩⟩ := a
  refine ⟨fun _ => List.replicate 3 .no, _, (xb_ret () (lw_nos rfl) (fun a => a) (fun _ => rfl) (xn xbl)), ?_⟩
  all_goals (show _ = m_Condition_call v_self v_item v_state; unfold m_Condition_call; first | (simp only [R.bindOk, R.bindEr, R.bindNo, R.thnOk, R.thnEr, R.thnNo, R.thn_id, R.bind_bind, R.thn_bind, R.bind_ok, R.cond_ok, R.noerOk, R.bind_thn, R.thn_thn, cond_true, cond_false]; done) | rfl)
abbrev st_m_Both_init : Stmt := inClass (top 12) 0
theorem sc_m_Both_init : FnScope ["self", "first", "second"] ["self", "first", "second"] (defScope st_m_Both_init) := ⟨rfl, rfl, rfl, by decide +kernel, rfl, by decide +kernel, by decide +kernel⟩
set_option maxHeartbeats 4000000 in
theorem ok_m_Both_init (B : Bt P w K mg xt) {fa : Addr} {fd : FuncData} (Fn : Fun K "__init__" "Both.__init__" st_m_Both_init fa fd) : FnOk P w K mg base (L2.CX P w) 1 fa fd ["self", "first", "second"] (spM xt (m0 (xt.cls 111)) (Pt.cons .sh (rCd xt.cls) inferInstance (Pt.cons .sh (rCd xt.cls) inferInstance Pt.nil)) (fun (g : Unit) (a : (Cd × Cd × Unit)) => m_Both_init a.1 a.2.1) (fun o d => sO (mR (xt.cls 111) ((Rc.nil.add "first" (rCd xt.cls)).add "second" (rCd xt.cls)) o d)) (fun _ (_ : Unit) => .no)) := by
  refine ok_M (S' := ((Unit × Cd) × Cd)) (y := "self") (N := ["first", "second"]) 0 Fn sc_m_Both_init rfl rfl (fun s => .ok s) (fun _ _ h => nomatch h) (fun cdv A outer s0 H E0_ hr p_ g_ a => ?_)
  obtain ⟨v_first, v_second, ⟨⟩⟩ := a
  refine ⟨fun s => sO (mR (xt.cls 111) ((Rc.nil.add "first" (rCd xt.cls)).add "second" (rCd xt.cls)) (some p_) s) :: List.replicate 2 .no, _, (xb_initX (Rw := Rc.nil) (a := ()) m0_mR 0 (fun v_self1 => [sO (mR (xt.cls 111) (Rc.nil.add "first" (rCd xt.cls)) (some p_) ((), v_self1)), sF (rCd xt.cls) v_first, sF (rCd xt.cls) v_second]) () (by walk_at "lw") rfl (xv 1) B.cl_Both B.no_Both_first (by first | decide | (dsimp only [Rc.add, Rc.nil]; decide)) (by first | decide | (dsimp only [Rc.add, Rc.nil]; decide)) (fun _ => rfl) (fun v_self1 =>
(xb_initX (Rw := (Rc.nil.add "first" (rCd xt.cls))) (a := ((), v_self1)) (fun _ _ _ _ h => h) 0 (fun v_self2 => [sO (mR (xt.cls 111) ((Rc.nil.add "first" (rCd xt.cls)).add "second" (rCd xt.cls)) (some p_) (((), v_self1), v_self2)), sF (rCd xt.cls) v_first, sF (rCd xt.cls) v_second]) () (by walk_at "lw") rfl (xv 2) B.cl_Both B.no_Both_second (by first | decide | (dsimp only [Rc.add, Rc.nil]; decide)) (by first | decide | (dsimp only [Rc.add, Rc.nil]; decide)) (fun _ => rfl) (fun v_self2 =>
(xb_nil (((), v_self1), v_self2) (by walk_at "lw")))))), ?_, ?_⟩
  · show _ = m_Both_init v_first v_second; unfold m_Both_init; first | (simp only [R.bindOk, R.bindEr, R.bindNo, R.thnOk, R.thnEr, R.thnNo, R.thn_id, R.bind_bind, R.thn_bind, R.bind_ok, R.cond_ok, R.noerOk, R.bind_thn, R.thn_thn, cond_true, cond_false]; done) | rfl
  · intro s d h; cases h; exact Lw.refl _
abbrev st_m_Both_call : Stmt := inClass (top 12) 1
theorem sc_m_Both_call : FnScope ["self", "item", "state"] ["self", "item", "state"] (defScope st_m_Both_call) := ⟨rfl, rfl, rfl, by decide +kernel, rfl, by decide +kernel, by decide +kernel⟩
set_option maxHeartbeats 4000000 in
theorem ok_m_Both_call (B : Bt P w K mg xt) {fa : Addr} {fd : FuncData} (Fn : Fun K "__call__" "Both.__call__" st_m_Both_call fa fd) (cc_ : Cd → Int × List Nat × Unit → R Er Bool) (q_ : Nat) (HC : ∀ c, CdPr P w K mg base xt (5 + q_) cc_ c) : FnOk P w K mg base (L2.CX P w) (5 + q_ + 1) fa fd ["self", "item", "state"] (spR xt (Pt.cons .sh (rR (xt.cls 111) ((Rc.nil.add "first" (rCd xt.cls)).add "second" (rCd xt.cls))) inferInstance (Pt.cons .sh rInt inferInstance (Pt.cons .sh rTx inferInstance Pt.nil))) (fun (a : (((Unit × Cd) × Cd) × Int × (List Nat) × Unit)) => m_Both_call cc_ a.1 a.2.1 a.2.2.1) (fun b => sF rBl b)) := by
  refine ok_R (S' := Unit) 0 Fn sc_m_Both_call rfl rfl (fun _ => .no) (fun _ _ h => nomatch h) (fun _ _ h => nomatch h) (fun cdv A outer s0 H E0_ hr a => ?_)
  obtain ⟨v_self, v_item, v_state, ⟨⟩⟩ := a
  refine ⟨fun _ => List.replicate 3 .no, _, (xb_ret () (lw_nos rfl) (fun a => a) (fun _ => rfl) (xn (xand (xsh (xcallCdF HC hr (xv 0) (Fd.prev Fd.last) B.cl_Both B.no_Both_first (xa_cons (xv 1) (xa_cons (xv 2) xa_nil)))) (xone (xsh (xcallCdF HC hr (xv 0) Fd.last B.cl_Both B.no_Both_second (xa_cons (xv 1) (xa_cons (xv 2) xa_nil)))))))), ?_⟩
  all_goals (show _ = m_Both_call cc_ v_self v_item v_state; unfold m_Both_call; first | (simp only [R.bindOk, R.bindEr, R.bindNo, R.thnOk, R.thnEr, R.thnNo, R.thn_id, R.bind_bind, R.thn_bind, R.bind_ok, R.cond_ok, R.noerOk, R.bind_thn, R.thn_thn, cond_true, cond_false]; done) | rfl)
abbrev st_m_Either_init : Stmt := inClass (top 13) 0
theorem sc_m_Either_init : FnScope ["self", "first", "second"] ["self", "first", "second"] (defScope st_m_Either_init) := ⟨rfl, rfl, rfl, by decide +kernel, rfl, by decide +kernel, by decide +kernel⟩
set_option maxHeartbeats 4000000 in
theorem ok_m_Either_init (B : Bt P w K mg xt) {fa : Addr} {fd : FuncData} (Fn : Fun K "__init__" "Either.__init__" st_m_Either_init fa fd) : FnOk P w K mg base (L2.CX P w) 1 fa fd ["self", "first", "second"] (spM xt (m0 (xt.cls 112)) (Pt.cons .sh (rCd xt.cls) inferInstance (Pt.cons .sh (rCd xt.cls) inferInstance Pt.nil)) (fun (g : Unit) (a : (Cd × Cd × Unit)) => m_Either_init a.1 a.2.1) (fun o d => sO (mR (xt.cls 112) ((Rc.nil.add "first" (rCd xt.cls)).add "second" (rCd xt.cls)) o d)) (fun _ (_ : Unit) => .no)) := by
  refine ok_M (S' := ((Unit × Cd) × Cd)) (y := "self") (N := ["first", "second"]) 0 Fn sc_m_Either_init rfl rfl (fun s => .ok s) (fun _ _ h => nomatch h) (fun cdv A outer s0 H E0_ hr p_ g_ a => ?_)
  obtain ⟨v_first, v_second, ⟨⟩⟩ := a
  refine ⟨fun s => sO (mR (xt.cls 112) ((Rc.nil.add "first" (rCd xt.cls)).add "second" (rCd xt.cls)) (some p_) s) :: List.replicate 2 .no, _, (xb_initX (Rw := Rc.nil) (a := ()) m0_mR 0 (fun v_self1 => [sO (mR (xt.cls 112) (Rc.nil.add "first" (rCd xt.cls)) (some p_) ((), v_self1)), sF (rCd xt.cls) v_first, sF (rCd xt.cls) v_second]) () (by walk_at "lw") rfl (xv 1) B.cl_Either B.no_Either_first (by first | decide | (dsimp only [Rc.add, Rc.nil]; decide)) (by first | decide | (dsimp only [Rc.add, Rc.nil]; decide)) (fun _ => rfl) (fun v_self1 =>
(xb_initX (Rw := (Rc.nil.add "first" (rCd xt.cls))) (a := ((), v_self1)) (fun _ _ _ _ h => h) 0 (fun v_self2 => [sO (mR (xt.cls 112) ((Rc.nil.add "first" (rCd xt.cls)).add "second" (rCd xt.cls)) (some p_) (((), v_self1), v_self2)), sF (rCd xt.cls) v_first, sF (rCd xt.cls) v_second]) () (by walk_at "lw") rfl (xv 2) B.cl_Either B.no_Either_second (by first | decide | (dsimp only [Rc.add, Rc.nil]; decide)) (by first | decide | (dsimp only [Rc.add, Rc.nil]; decide)) (fun _ => rfl) (fun v_self2 =>
(xb_nil (((), v_self1), v_self2) (by walk_at "lw")))))), ?_, ?_⟩
  · show _ = m_Either_init v_first v_second; unfold m_Either_init; first | (simp only [R.bindOk, R.bindEr, R.bindNo, R.thnOk, R.thnEr, R.thnNo, R.thn_id, R.bind_bind, R.thn_bind, R.bind_ok, R.cond_ok, R.noerOk, R.bind_thn, R.thn_thn, cond_true, cond_false]; done) | rfl
  · intro s d h; cases h; exact Lw.refl _
abbrev st_m_Either_call : Stmt := inClass (top 13) 1
theorem sc_m_Either_call : FnScope ["self", "item", "state"] ["self", "item", "state"] (defScope st_m_Either_call) := ⟨rfl, rfl, rfl, by decide +kernel, rfl, by decide +kernel, by decide +kernel⟩
set_option maxHeartbeats 4000000 in
theorem ok_m_Either_call (B : Bt P w K mg xt) {fa : Addr} {fd : FuncData} (Fn : Fun K "__call__" "Either.__call__" st_m_Either_call fa fd) (cc_ : Cd → Int × List Nat × Unit → R Er Bool) (q_ : Nat) (HC : ∀ c, CdPr P w K mg base xt (5 + q_) cc_ c) : FnOk P w K mg base (L2.CX P w) (5 + q_ + 1) fa fd ["self", "item", "state"] (spR xt (Pt.cons .sh (rR (xt.cls 112) ((Rc.nil.add "first" (rCd xt.cls)).add "second" (rCd xt.cls))) inferInstance (Pt.cons .sh rInt inferInstance (Pt.cons .sh rTx inferInstance Pt.nil))) (fun (a : (((Unit × Cd) × Cd) × Int × (List Nat) × Unit)) => m_Either_call cc_ a.1 a.2.1 a.2.2.1) (fun b => sF rBl b)) := by
  refine ok_R (S' := Unit) 0 Fn sc_m_Either_call rfl rfl (fun _ => .no) (fun _ _ h => nomatch h) (fun _ _ h => nomatch h) (fun cdv A outer s0 H E0_ hr a => ?_)
  obtain ⟨v_self, v_item, v_state, ⟨⟩⟩ := a
  refine ⟨fun _ => List.replicate 3 .no, _, (xb_ret () (lw_nos rfl) (fun a => a) (fun _ => rfl) (xn (xor (xsh (xcallCdF HC hr (xv 0) (Fd.prev Fd.last) B.cl_Either B.no_Either_first (xa_cons (xv 1) (xa_cons (xv 2) xa_nil)))) (xone (xsh (xcallCdF HC hr (xv 0) Fd.last B.cl_Either B.no_Either_second (xa_cons (xv 1) (xa_cons (xv 2) xa_nil)))))))), ?_⟩
  all_goals (show _ = m_Either_call cc_ v_self v_item v_state; unfold m_Either_call; first | (simp only [R.bindOk, R.bindEr, R.bindNo, R.thnOk, R.thnEr, R.thnNo, R.thn_id, R.bind_bind, R.thn_bind, R.bind_ok, R.cond_ok, R.noerOk, R.bind_thn, R.thn_thn, cond_true, cond_false]; done) | rfl)
abbrev st_m_Opposite_init : Stmt := inClass (top 14) 0
theorem sc_m_Opposite_init : FnScope ["self", "inner"] ["self", "inner"] (defScope st_m_Opposite_init) := ⟨rfl, rfl, rfl, by decide +kernel, rfl, by decide +kernel, by decide +kernel⟩
set_option maxHeartbeats 4000000 in
theorem ok_m_Opposite_init (B : Bt P w K mg xt) {fa : Addr} {fd : FuncData} (Fn : Fun K "__init__" "Opposite.__init__" st_m_Opposite_init fa fd) : FnOk P w K mg base (L2.CX P w) 1 fa fd ["self", "inner"] (spM xt (m0 (xt.cls 113)) (Pt.cons .sh (rCd xt.cls) inferInstance Pt.nil) (fun (g : Unit) (a : (Cd × Unit)) => m_Opposite_init a.1) (fun o d => sO (mR (xt.cls 113) (Rc.nil.add "inner" (rCd xt.cls)) o d)) (fun _ (_ : Unit) => .no)) := by
  refine ok_M (S' := (Unit × Cd)) (y := "self") (N := ["inner"]) 0 Fn sc_m_Opposite_init rfl rfl (fun s => .ok s) (fun _ _ h => nomatch h) (fun cdv A outer s0 H E0_ hr p_ g_ a => ?_)
  obtain ⟨v_inner, ⟨⟩⟩ := a
  refine ⟨fun s => sO (mR (xt.cls 113) (Rc.nil.add "inner" (rCd xt.cls)) (some p_) s) :: List.replicate 1 .no, _, (xb_initX (Rw := Rc.nil) (a := ()) m0_mR 0 (fun v_self1 => [sO (mR (xt.cls 113) (Rc.nil.add "inner" (rCd xt.cls)) (some p_) ((), v_self1)), sF (rCd xt.cls) v_inner]) () (by walk_at "lw") rfl (xv 1) B.cl_Opposite B.no_Opposite_inner (by first | decide | (dsimp only [Rc.add, Rc.nil]; decide)) (by first | decide | (dsimp only [Rc.add, Rc.nil]; decide)) (fun _ => rfl) (fun v_self1 =>
(xb_nil ((), v_self1) (by walk_at "lw")))), ?_, ?_⟩
  · show _ = m_Opposite_init v_inner; unfold m_Opposite_init; first | (simp only [R.bindOk, R.bindEr, R.bindNo, R.thnOk, R.thnEr, R.thnNo, R.thn_id, R.bind_bind, R.thn_bind, R.bind_ok, R.cond_ok, R.noerOk, R.bind_thn, R.thn_thn, cond_true, cond_false]; done) | rfl
  · intro s d h; cases h; exact Lw.refl _
abbrev st_m_Opposite_call : Stmt := inClass (top 14) 1
theorem sc_m_Opposite_call : FnScope ["self", "item", "state"] ["self", "item", "state"] (defScope st_m_Opposite_call) := ⟨rfl, rfl, rfl, by decide +kernel, rfl, by decide +kernel, by decide +kernel⟩
set_option maxHeartbeats 4000000 in
theorem ok_m_Opposite_call (B : Bt P w K mg xt) {fa : Addr} {fd : FuncData} (Fn : Fun K "__call__" "Opposite.__call__" st_m_Opposite_call fa fd) (cc_ : Cd → Int × List Nat × Unit → R Er Bool) (q_ : Nat) (HC : ∀ c, CdPr P w K mg base xt (5 + q_) cc_ c) : FnOk P w K mg base (L2.CX P w) (5 + q_ + 1) fa fd ["self", "item", "state"] (spR xt (Pt.cons .sh (rR (xt.cls 113) (Rc.nil.add "inner" (rCd xt.cls))) inferInstance (Pt.cons .sh rInt inferInstance (Pt.cons .sh rTx inferInstance Pt.nil))) (fun (a : ((Unit × Cd) × Int × (List Nat) × Unit)) => m_Opposite_call cc_ a.1 a.2.1 a.2.2.1) (fun b => sF rBl b)) := by
  refine ok_R (S' := Unit) 0 Fn sc_m_Opposite_call rfl rfl (fun _ => .no) (fun _ _ h => nomatch h) (fun _ _ h => nomatch h) (fun cdv A outer s0 H E0_ hr a => ?_)
  obtain ⟨v_self, v_item, v_state, ⟨⟩⟩ := a
  refine ⟨fun _ => List.replicate 3 .no, _, (xb_ret () (lw_nos rfl) (fun a => a) (fun _ => rfl) (xn (xnot (xsh (xcallCdF HC hr (xv 0) Fd.last B.cl_Opposite B.no_Opposite_inner (xa_cons (xv 1) (xa_cons (xv 2) xa_nil))))))), ?_⟩
  all_goals (show _ = m_Opposite_call cc_ v_self v_item v_state; unfold m_Opposite_call; first | (simp only [R.bindOk, R.bindEr, R.bindNo, R.thnOk, R.thnEr, R.thnNo, R.thn_id, R.bind_bind, R.thn_bind, R.bind_ok, R.cond_ok, R.noerOk, R.bind_thn, R.thn_thn, cond_true, cond_false]; done) | rfl)
abbrev st_m_Holds_init : Stmt := inClass (top 15) 0
theorem sc_m_Holds_init : FnScope ["self", "least", "needed"] ["self", "least", "needed"] (defScope st_m_Holds_init) := ⟨rfl, rfl, rfl, by decide +kernel, rfl, by decide +kernel, by decide +kernel⟩
set_option maxHeartbeats 4000000 in
theorem ok_m_Holds_init (B : Bt P w K mg xt) {fa : Addr} {fd : FuncData} (Fn : Fun K "__init__" "Holds.__init__" st_m_Holds_init fa fd) {a_distinct_items : Addr} {d_distinct_items : FuncData} (C_distinct_items : Cal K mg "distinct_items" a_distinct_items d_distinct_items ["listed"]) (G_distinct_items : FnOk P w K mg base (L2.CX P w) 2 a_distinct_items d_distinct_items ["listed"] (spR xt (Pt.cons .sh (rTup rInt) inferInstance Pt.nil) (fun (a : ((List Int) × Unit)) => m_distinct_items a.1) (fun b => sL rInt b))) {ks : List Str} {dvs : List V} (hb : BndA K fd "self" ["least"] "needed" ks dvs) : FnA P w K mg base (L2.CX P w) 3 fa ks (spA (spM xt (m0 (xt.cls 114)) (Pt.cons .sh (rOpt rInt) inferInstance (Pt.cons .sh (rTup rInt) inferInstance Pt.nil)) (fun (g : Unit) (a : ((Option Int) × (List Int) × Unit)) => m_Holds_init a.1 a.2.1) (fun o d => sO (mR (xt.cls 114) ((Rc.nil.add "needed" (rLst rInt)).add "least" rInt) o d)) (fun _ (_ : Unit) => .no)) dvs) := by
  refine ok_MA (S' := ((Unit × (List Int)) × Int)) (y := "self") (pv := "needed") (N := ["least", "needed"]) (kn := ["least"]) 0 Fn sc_m_Holds_init rfl hb (fun s => .ok s) (fun _ _ h => nomatch h) (fun cdv A outer s0 H E0_ hr p_ g_ a => ?_)
  obtain ⟨v_least, v_needed, ⟨⟩⟩ := a
  refine ⟨fun s => sO (mR (xt.cls 114) ((Rc.nil.add "needed" (rLst rInt)).add "least" rInt) (some p_) s) :: List.replicate 2 .no, _, (xb_initX (Rw := Rc.nil) (a := ()) m0_mR 0 (fun v_self1 => [sO (mR (xt.cls 114) (Rc.nil.add "needed" (rLst rInt)) (some p_) ((), v_self1)), sF (rOpt rInt) v_least, sF (rTup rInt) v_needed]) () (by walk_at "lw") rfl (xfz (xcall C_distinct_items G_distinct_items hr (xa_cons (xv 2) xa_nil))) B.cl_Holds B.no_Holds_needed (by first | decide | (dsimp only [Rc.add, Rc.nil]; decide)) (by first | decide | (dsimp only [Rc.add, Rc.nil]; decide)) (fun _ => rfl) (fun v_self1 =>
(xb_initX (Rw := (Rc.nil.add "needed" (rLst rInt))) (a := ((), v_self1)) (fun _ _ _ _ h => h) 0 (fun v_self2 => [sO (mR (xt.cls 114) ((Rc.nil.add "needed" (rLst rInt)).add "least" rInt) (some p_) (((), v_self1), v_self2)), sF (rOpt rInt) v_least, sF (rTup rInt) v_needed]) () (by walk_at "lw") rfl (xif (xqc (xisN (xv 1))) (xlenL (xfldR (xvm (mu := mR (xt.cls 114) (Rc.nil.add "needed" (rLst rInt)) (some p_)) 0) Fd.last B.cl_Holds B.no_Holds_needed) B.z_len) (xopt (xv 1))) B.cl_Holds B.no_Holds_least (by first | decide | (dsimp only [Rc.add, Rc.nil]; decide)) (by first | decide | (dsimp only [Rc.add, Rc.nil]; decide)) (fun _ => rfl) (fun v_self2 =>
(xb_nil (((), v_self1), v_self2) (by walk_at "lw")))))), ?_, ?_⟩
  · show _ = m_Holds_init v_least v_needed; unfold m_Holds_init; first | (simp only [R.bindOk, R.bindEr, R.bindNo, R.thnOk, R.thnEr, R.thnNo, R.thn_id, R.bind_bind, R.thn_bind, R.bind_ok, R.cond_ok, R.noerOk, R.bind_thn, R.thn_thn, cond_true, cond_false]; done) | rfl
  · intro s d h; cases h; exact Lw.refl _
abbrev st_m_Holds_call : Stmt := inClass (top 15) 1
theorem sc_m_Holds_call : FnScope ["self", "item", "state", "kept", "one"] ["self", "item", "state"] (defScope st_m_Holds_call) := ⟨rfl, rfl, rfl, by decide +kernel, rfl, by decide +kernel, by decide +kernel⟩
set_option maxHeartbeats 4000000 in
theorem ok_m_Holds_call (B : Bt P w K mg xt) {fa : Addr} {fd : FuncData} (Fn : Fun K "__call__" "Holds.__call__" st_m_Holds_call fa fd) {a_held_items : Addr} {d_held_items : FuncData} (C_held_items : Cal K mg "held_items" a_held_items d_held_items ["state"]) (G_held_items : FnOk P w K mg base (L2.CX P w) 2 a_held_items d_held_items ["state"] (spR xt (Pt.cons .sh rTx inferInstance Pt.nil) (fun (a : ((List Nat) × Unit)) => m_held_items a.1) (fun b => sF (rTup rInt) b))) : FnOk P w K mg base (L2.CX P w) 3 fa fd ["self", "item", "state"] (spR xt (Pt.cons .sh (rR (xt.cls 114) ((Rc.nil.add "needed" (rLst rInt)).add "least" rInt)) inferInstance (Pt.cons .sh rInt inferInstance (Pt.cons .sh rTx inferInstance Pt.nil))) (fun (a : (((Unit × (List Int)) × Int) × Int × (List Nat) × Unit)) => m_Holds_call a.1 a.2.1 a.2.2.1) (fun b => sF rBl b)) := by
  refine ok_R (S' := Unit) 2 Fn sc_m_Holds_call rfl rfl (fun _ => .no) (fun _ _ h => nomatch h) (fun _ _ h => nomatch h) (fun cdv A outer s0 H E0_ hr a => ?_)
  obtain ⟨v_self, v_item, v_state, ⟨⟩⟩ := a
  refine ⟨fun _ => List.replicate 5 .no, _, (xb_set 3 (fun v_kept1 => [sF (rR (xt.cls 114) ((Rc.nil.add "needed" (rLst rInt)).add "least" rInt)) v_self, sF rInt v_item, sF rTx v_state, sF (rTup rInt) v_kept1, .no]) () (lw_nos rfl) (xn (xsh (xcall C_held_items G_held_items hr (xa_cons (xv 2) xa_nil)))) (fun _ => rfl) (fun v_kept1 =>
(xb_ret () (lw_nos rfl) (fun a => a) (fun _ => rfl) (xn (xcv (xge (xlenL (xfz (xnlc (xlc [("one", 4)] (fun x1 => [sF (rR (xt.cls 114) ((Rc.nil.add "needed" (rLst rInt)).add "least" rInt)) v_self, sF rInt v_item, sF rTx v_state, sF (rTup rInt) v_kept1, sF rInt x1]) (xi_list (xfldR (xv 0) (Fd.prev Fd.last) B.cl_Holds B.no_Holds_needed)) (fun _ _ _ _ _ => (xg_name 4)) (fun _ => rfl) (fun _ _ _ _ _ x1 => (xqs1 (xqc (xinU (xv 4) (xv 3))))) (fun _ _ _ _ _ x1 => (xv 4)) (ok := (by decide +kernel : blkC ["self", "item", "state", "kept", "one"] (defScope st_m_Holds_call) _ [("one", 4)] = true))))) B.z_len) (xfldR (xv 0) Fd.last B.cl_Holds B.no_Holds_least))))))), ?_⟩
  all_goals (show _ = m_Holds_call v_self v_item v_state; unfold m_Holds_call; first | (simp only [R.bindOk, R.bindEr, R.bindNo, R.thnOk, R.thnEr, R.thnNo, R.thn_id, R.bind_bind, R.thn_bind, R.bind_ok, R.cond_ok, R.noerOk, R.bind_thn, R.thn_thn, cond_true, cond_false]; done) | rfl)
abbrev st_m_HoldsOnly_init : Stmt := inClass (top 16) 0
theorem sc_m_HoldsOnly_init : FnScope ["self", "exact"] ["self", "exact"] (defScope st_m_HoldsOnly_init) := ⟨rfl, rfl, rfl, by decide +kernel, rfl, by decide +kernel, by decide +kernel⟩
set_option maxHeartbeats 4000000 in
theorem ok_m_HoldsOnly_init (B : Bt P w K mg xt) {fa : Addr} {fd : FuncData} (Fn : Fun K "__init__" "HoldsOnly.__init__" st_m_HoldsOnly_init fa fd) {a_distinct_items : Addr} {d_distinct_items : FuncData} (C_distinct_items : Cal K mg "distinct_items" a_distinct_items d_distinct_items ["listed"]) (G_distinct_items : FnOk P w K mg base (L2.CX P w) 2 a_distinct_items d_distinct_items ["listed"] (spR xt (Pt.cons .sh (rTup rInt) inferInstance Pt.nil) (fun (a : ((List Int) × Unit)) => m_distinct_items a.1) (fun b => sL rInt b))) {ks : List Str} {dvs : List V} (hb : BndA K fd "self" [] "exact" ks dvs) : FnA P w K mg base (L2.CX P w) 3 fa ks (spA (spM xt (m0 (xt.cls 115)) (Pt.cons .sh (rTup rInt) inferInstance Pt.nil) (fun (g : Unit) (a : ((List Int) × Unit)) => m_HoldsOnly_init a.1) (fun o d => sO (mR (xt.cls 115) (Rc.nil.add "exact" (rLst rInt)) o d)) (fun _ (_ : Unit) => .no)) dvs) := by
  refine ok_MA (S' := (Unit × (List Int))) (y := "self") (pv := "exact") (N := ["exact"]) (kn := []) 0 Fn sc_m_HoldsOnly_init rfl hb (fun s => .ok s) (fun _ _ h => nomatch h) (fun cdv A outer s0 H E0_ hr p_ g_ a => ?_)
  obtain ⟨v_exact, ⟨⟩⟩ := a
  refine ⟨fun s => sO (mR (xt.cls 115) (Rc.nil.add "exact" (rLst rInt)) (some p_) s) :: List.replicate 1 .no, _, (xb_initX (Rw := Rc.nil) (a := ()) m0_mR 0 (fun v_self1 => [sO (mR (xt.cls 115) (Rc.nil.add "exact" (rLst rInt)) (some p_) ((), v_self1)), sF (rTup rInt) v_exact]) () (by walk_at "lw") rfl (xfz (xcall C_distinct_items G_distinct_items hr (xa_cons (xv 1) xa_nil))) B.cl_HoldsOnly B.no_HoldsOnly_exact (by first | decide | (dsimp only [Rc.add, Rc.nil]; decide)) (by first | decide | (dsimp only [Rc.add, Rc.nil]; decide)) (fun _ => rfl) (fun v_self1 =>
(xb_nil ((), v_self1) (by walk_at "lw")))), ?_, ?_⟩
  · show _ = m_HoldsOnly_init v_exact; unfold m_HoldsOnly_init; first | (simp only [R.bindOk, R.bindEr, R.bindNo, R.thnOk, R.thnEr, R.thnNo, R.thn_id, R.bind_bind, R.thn_bind, R.bind_ok, R.cond_ok, R.noerOk, R.bind_thn, R.thn_thn, cond_true, cond_false]; done) | rfl
  · intro s d h; cases h; exact Lw.refl _
abbrev st_m_HoldsOnly_call : Stmt := inClass (top 16) 1
theorem sc_m_HoldsOnly_call : FnScope ["self", "item", "state", "kept", "one"] ["self", "item", "state"] (defScope st_m_HoldsOnly_call) := ⟨rfl, rfl, rfl, by decide +kernel, rfl, by decide +kernel, by decide +kernel⟩
set_option maxHeartbeats 4000000 in
theorem ok_m_HoldsOnly_call (B : Bt P w K mg xt) {fa : Addr} {fd : FuncData} (Fn : Fun K "__call__" "HoldsOnly.__call__" st_m_HoldsOnly_call fa fd) {a_held_items : Addr} {d_held_items : FuncData} (C_held_items : Cal K mg "held_items" a_held_items d_held_items ["state"]) (G_held_items : FnOk P w K mg base (L2.CX P w) 2 a_held_items d_held_items ["state"] (spR xt (Pt.cons .sh rTx inferInstance Pt.nil) (fun (a : ((List Nat) × Unit)) => m_held_items a.1) (fun b => sF (rTup rInt) b))) : FnOk P w K mg base (L2.CX P w) 3 fa fd ["self", "item", "state"] (spR xt (Pt.cons .sh (rR (xt.cls 115) (Rc.nil.add "exact" (rLst rInt))) inferInstance (Pt.cons .sh rInt inferInstance (Pt.cons .sh rTx inferInstance Pt.nil))) (fun (a : ((Unit × (List Int)) × Int × (List Nat) × Unit)) => m_HoldsOnly_call a.1 a.2.1 a.2.2.1) (fun b => sF rBl b)) := by
  refine ok_R (S' := Unit) 2 Fn sc_m_HoldsOnly_call rfl rfl (fun _ => .no) (fun _ _ h => nomatch h) (fun _ _ h => nomatch h) (fun cdv A outer s0 H E0_ hr a => ?_)
  obtain ⟨v_self, v_item, v_state, ⟨⟩⟩ := a
  refine ⟨fun _ => List.replicate 5 .no, _, (xb_set 3 (fun v_kept1 => [sF (rR (xt.cls 115) (Rc.nil.add "exact" (rLst rInt))) v_self, sF rInt v_item, sF rTx v_state, sF (rTup rInt) v_kept1, .no]) () (lw_nos rfl) (xn (xsh (xcall C_held_items G_held_items hr (xa_cons (xv 2) xa_nil)))) (fun _ => rfl) (fun v_kept1 =>
(xb_ret () (lw_nos rfl) (fun a => a) (fun _ => rfl) (xn (xand (xcv (xeq (xlenU (xv 3) B.z_len) (xlenL (xfldR (xv 0) Fd.last B.cl_HoldsOnly B.no_HoldsOnly_exact) B.z_len))) (xone (xall (xfz (xnlc (xlc [("one", 4)] (fun x1 => [sF (rR (xt.cls 115) (Rc.nil.add "exact" (rLst rInt))) v_self, sF rInt v_item, sF rTx v_state, sF (rTup rInt) v_kept1, sF rInt x1]) (xi_list (xfldR (xv 0) Fd.last B.cl_HoldsOnly B.no_HoldsOnly_exact)) (fun _ _ _ _ _ => (xg_name 4)) (fun _ => rfl) (fun _ _ _ _ _ x1 => xqs0) (fun _ _ _ _ _ x1 => (xcv (xinU (xv 4) (xv 3)))) (ok := (by decide +kernel : blkC ["self", "item", "state", "kept", "one"] (defScope st_m_HoldsOnly_call) _ [("one", 4)] = true))))) B.z_all))))))), ?_⟩
  all_goals (show _ = m_HoldsOnly_call v_self v_item v_state; unfold m_HoldsOnly_call; first | (simp only [R.bindOk, R.bindEr, R.bindNo, R.thnOk, R.thnEr, R.thnNo, R.thn_id, R.bind_bind, R.thn_bind, R.bind_ok, R.cond_ok, R.noerOk, R.bind_thn, R.thn_thn, cond_true, cond_false]; done) | rfl)
abbrev st_m_Untaken_init : Stmt := inClass (top 17) 0
theorem sc_m_Untaken_init : FnScope ["self", "listed"] ["self", "listed"] (defScope st_m_Untaken_init) := ⟨rfl, rfl, rfl, by decide +kernel, rfl, by decide +kernel, by decide +kernel⟩
set_option maxHeartbeats 4000000 in
theorem ok_m_Untaken_init (B : Bt P w K mg xt) {fa : Addr} {fd : FuncData} (Fn : Fun K "__init__" "Untaken.__init__" st_m_Untaken_init fa fd) {a_distinct_items : Addr} {d_distinct_items : FuncData} (C_distinct_items : Cal K mg "distinct_items" a_distinct_items d_distinct_items ["listed"]) (G_distinct_items : FnOk P w K mg base (L2.CX P w) 2 a_distinct_items d_distinct_items ["listed"] (spR xt (Pt.cons .sh (rTup rInt) inferInstance Pt.nil) (fun (a : ((List Int) × Unit)) => m_distinct_items a.1) (fun b => sL rInt b))) {ks : List Str} {dvs : List V} (hb : BndA K fd "self" [] "listed" ks dvs) : FnA P w K mg base (L2.CX P w) 3 fa ks (spA (spM xt (m0 (xt.cls 116)) (Pt.cons .sh (rTup rInt) inferInstance Pt.nil) (fun (g : Unit) (a : ((List Int) × Unit)) => m_Untaken_init a.1) (fun o d => sO (mR (xt.cls 116) (Rc.nil.add "listed" (rLst rInt)) o d)) (fun _ (_ : Unit) => .no)) dvs) := by
  refine ok_MA (S' := (Unit × (List Int))) (y := "self") (pv := "listed") (N := ["listed"]) (kn := []) 0 Fn sc_m_Untaken_init rfl hb (fun s => .ok s) (fun _ _ h => nomatch h) (fun cdv A outer s0 H E0_ hr p_ g_ a => ?_)
  obtain ⟨v_listed, ⟨⟩⟩ := a
  refine ⟨fun s => sO (mR (xt.cls 116) (Rc.nil.add "listed" (rLst rInt)) (some p_) s) :: List.replicate 1 .no, _, (xb_initX (Rw := Rc.nil) (a := ()) m0_mR 0 (fun v_self1 => [sO (mR (xt.cls 116) (Rc.nil.add "listed" (rLst rInt)) (some p_) ((), v_self1)), sF (rTup rInt) v_listed]) () (by walk_at "lw") rfl (xfz (xcall C_distinct_items G_distinct_items hr (xa_cons (xv 1) xa_nil))) B.cl_Untaken B.no_Untaken_listed (by first | decide | (dsimp only [Rc.add, Rc.nil]; decide)) (by first | decide | (dsimp only [Rc.add, Rc.nil]; decide)) (fun _ => rfl) (fun v_self1 =>
(xb_nil ((), v_self1) (by walk_at "lw")))), ?_, ?_⟩
  · show _ = m_Untaken_init v_listed; unfold m_Untaken_init; first | (simp only [R.bindOk, R.bindEr, R.bindNo, R.thnOk, R.thnEr, R.thnNo, R.thn_id, R.bind_bind, R.thn_bind, R.bind_ok, R.cond_ok, R.noerOk, R.bind_thn, R.thn_thn, cond_true, cond_false]; done) | rfl
  · intro s d h; cases h; exact Lw.refl _
abbrev st_m_Untaken_call : Stmt := inClass (top 17) 1
theorem sc_m_Untaken_call : FnScope ["self", "item", "state", "found", "one"] ["self", "item", "state"] (defScope st_m_Untaken_call) := ⟨rfl, rfl, rfl, by decide +kernel, rfl, by decide +kernel, by decide +kernel⟩
set_option maxHeartbeats 4000000 in
theorem ok_m_Untaken_call (B : Bt P w K mg xt) {fa : Addr} {fd : FuncData} (Fn : Fun K "__call__" "Untaken.__call__" st_m_Untaken_call fa fd) {a_taken_items : Addr} {d_taken_items : FuncData} (C_taken_items : Cal K mg "taken_items" a_taken_items d_taken_items ["state"]) (G_taken_items : FnOk P w K mg base (L2.CX P w) 2 a_taken_items d_taken_items ["state"] (spR xt (Pt.cons .sh rTx inferInstance Pt.nil) (fun (a : ((List Nat) × Unit)) => m_taken_items a.1) (fun b => sF (rTup rInt) b))) : FnOk P w K mg base (L2.CX P w) 3 fa fd ["self", "item", "state"] (spR xt (Pt.cons .sh (rR (xt.cls 116) (Rc.nil.add "listed" (rLst rInt))) inferInstance (Pt.cons .sh rInt inferInstance (Pt.cons .sh rTx inferInstance Pt.nil))) (fun (a : ((Unit × (List Int)) × Int × (List Nat) × Unit)) => m_Untaken_call a.1 a.2.1 a.2.2.1) (fun b => sF rBl b)) := by
  refine ok_R (S' := Unit) 2 Fn sc_m_Untaken_call rfl rfl (fun _ => .no) (fun _ _ h => nomatch h) (fun _ _ h => nomatch h) (fun cdv A outer s0 H E0_ hr a => ?_)
  obtain ⟨v_self, v_item, v_state, ⟨⟩⟩ := a
  refine ⟨fun _ => List.replicate 5 .no, _, (xb_set 3 (fun v_found1 => [sF (rR (xt.cls 116) (Rc.nil.add "listed" (rLst rInt))) v_self, sF rInt v_item, sF rTx v_state, sF (rTup rInt) v_found1, .no]) () (lw_nos rfl) (xn (xsh (xcall C_taken_items G_taken_items hr (xa_cons (xv 2) xa_nil)))) (fun _ => rfl) (fun v_found1 =>
(xb_if (S := Unit) (slj := (fun s1 => [sF (rR (xt.cls 116) (Rc.nil.add "listed" (rLst rInt))) v_self, sF rInt v_item, sF rTx v_state, sF (rTup rInt) v_found1, .no])) () (lw_nos rfl) (xqnot (xqtrL (xfldR (xv 0) Fd.last B.cl_Untaken B.no_Untaken_listed)))
(xb_ret () (lw_nos rfl) (fun a => a) (fun _ => rfl) (xn (xcv (xeqd (r := (rTup rInt)) (xv 3) hr (xtup (r := rInt) xl_nil)))))
(xb_nil () (by walk_at "lw")) (fun s1 =>
(xb_ret () (lw_nos rfl) (fun a => a) (fun _ => rfl) (xn (xnot (xany (xfz (xnlc (xlc [("one", 4)] (fun x1 => [sF (rR (xt.cls 116) (Rc.nil.add "listed" (rLst rInt))) v_self, sF rInt v_item, sF rTx v_state, sF (rTup rInt) v_found1, sF rInt x1]) (xi_list (xfldR (xv 0) Fd.last B.cl_Untaken B.no_Untaken_listed)) (fun _ _ _ _ _ => (xg_name 4)) (fun _ => rfl) (fun _ _ _ _ _ x1 => xqs0) (fun _ _ _ _ _ x1 => (xcv (xinU (xv 4) (xv 3)))) (ok := (by decide +kernel : blkC ["self", "item", "state", "found", "one"] (defScope st_m_Untaken_call) _ [("one", 4)] = true))))) B.z_any)))))))), ?_⟩
  all_goals (show _ = m_Untaken_call v_self v_item v_state; unfold m_Untaken_call; first | (simp only [R.bindOk, R.bindEr, R.bindNo, R.thnOk, R.thnEr, R.thnNo, R.thn_id, R.bind_bind, R.thn_bind, R.bind_ok, R.cond_ok, R.noerOk, R.bind_thn, R.thn_thn, cond_true, cond_false]; done) | rfl)
abbrev st_m_Unreleased_init : Stmt := inClass (top 18) 0
theorem sc_m_Unreleased_init : FnScope ["self", "listed"] ["self", "listed"] (defScope st_m_Unreleased_init) := ⟨rfl, rfl, rfl, by decide +kernel, rfl, by decide +kernel, by decide +kernel⟩
set_option maxHeartbeats 4000000 in
theorem ok_m_Unreleased_init (B : Bt P w K mg xt) {fa : Addr} {fd : FuncData} (Fn : Fun K "__init__" "Unreleased.__init__" st_m_Unreleased_init fa fd) {a_distinct_items : Addr} {d_distinct_items : FuncData} (C_distinct_items : Cal K mg "distinct_items" a_distinct_items d_distinct_items ["listed"]) (G_distinct_items : FnOk P w K mg base (L2.CX P w) 2 a_distinct_items d_distinct_items ["listed"] (spR xt (Pt.cons .sh (rTup rInt) inferInstance Pt.nil) (fun (a : ((List Int) × Unit)) => m_distinct_items a.1) (fun b => sL rInt b))) {ks : List Str} {dvs : List V} (hb : BndA K fd "self" [] "listed" ks dvs) : FnA P w K mg base (L2.CX P w) 3 fa ks (spA (spM xt (m0 (xt.cls 117)) (Pt.cons .sh (rTup rInt) inferInstance Pt.nil) (fun (g : Unit) (a : ((List Int) × Unit)) => m_Unreleased_init a.1) (fun o d => sO (mR (xt.cls 117) (Rc.nil.add "listed" (rLst rInt)) o d)) (fun _ (_ : Unit) => .no)) dvs) := by
  refine ok_MA (S' := (Unit × (List Int))) (y := "self") (pv := "listed") (N := ["listed"]) (kn := []) 0 Fn sc_m_Unreleased_init rfl hb (fun s => .ok s) (fun _ _ h => nomatch h) (fun cdv A outer s0 H E0_ hr p_ g_ a => ?_)
  obtain ⟨v_listed, ⟨⟩⟩ := a
  refine ⟨fun s => sO (mR (xt.cls 117) (Rc.nil.add "listed" (rLst rInt)) (some p_) s) :: List.replicate 1 .no, _, (xb_initX (Rw := Rc.nil) (a := ()) m0_mR 0 (fun v_self1 => [sO (mR (xt.cls 117) (Rc.nil.add "listed" (rLst rInt)) (some p_) ((), v_self1)), sF (rTup rInt) v_listed]) () (by walk_at "lw") rfl (xfz (xcall C_distinct_items G_distinct_items hr (xa_cons (xv 1) xa_nil))) B.cl_Unreleased B.no_Unreleased_listed (by first | decide | (dsimp only [Rc.add, Rc.nil]; decide)) (by first | decide | (dsimp only [Rc.add, Rc.nil]; decide)) (fun _ => rfl) (fun v_self1 =>
(xb_nil ((), v_self1) (by walk_at "lw")))), ?_, ?_⟩
  · show _ = m_Unreleased_init v_listed; unfold m_Unreleased_init; first | (simp only [R.bindOk, R.bindEr, R.bindNo, R.thnOk, R.thnEr, R.thnNo, R.thn_id, R.bind_bind, R.thn_bind, R.bind_ok, R.cond_ok, R.noerOk, R.bind_thn, R.thn_thn, cond_true, cond_false]; done) | rfl
  · intro s d h; cases h; exact Lw.refl _
abbrev st_m_Unreleased_call : Stmt := inClass (top 18) 1
theorem sc_m_Unreleased_call : FnScope ["self", "item", "state", "found", "one"] ["self", "item", "state"] (defScope st_m_Unreleased_call) := ⟨rfl, rfl, rfl, by decide +kernel, rfl, by decide +kernel, by decide +kernel⟩
set_option maxHeartbeats 4000000 in
theorem ok_m_Unreleased_call (B : Bt P w K mg xt) {fa : Addr} {fd : FuncData} (Fn : Fun K "__call__" "Unreleased.__call__" st_m_Unreleased_call fa fd) {a_released_items : Addr} {d_released_items : FuncData} (C_released_items : Cal K mg "released_items" a_released_items d_released_items ["state"]) (G_released_items : FnOk P w K mg base (L2.CX P w) 2 a_released_items d_released_items ["state"] (spR xt (Pt.cons .sh rTx inferInstance Pt.nil) (fun (a : ((List Nat) × Unit)) => m_released_items a.1) (fun b => sF (rTup rInt) b))) : FnOk P w K mg base (L2.CX P w) 3 fa fd ["self", "item", "state"] (spR xt (Pt.cons .sh (rR (xt.cls 117) (Rc.nil.add "listed" (rLst rInt))) inferInstance (Pt.cons .sh rInt inferInstance (Pt.cons .sh rTx inferInstance Pt.nil))) (fun (a : ((Unit × (List Int)) × Int × (List Nat) × Unit)) => m_Unreleased_call a.1 a.2.1 a.2.2.1) (fun b => sF rBl b)) := by
  refine ok_R (S' := Unit) 2 Fn sc_m_Unreleased_call rfl rfl (fun _ => .no) (fun _ _ h => nomatch h) (fun _ _ h => nomatch h) (fun cdv A outer s0 H E0_ hr a => ?_)
  obtain ⟨v_self, v_item, v_state, ⟨⟩⟩ := a
  refine ⟨fun _ => List.replicate 5 .no, _, (xb_set 3 (fun v_found1 => [sF (rR (xt.cls 117) (Rc.nil.add "listed" (rLst rInt))) v_self, sF rInt v_item, sF rTx v_state, sF (rTup rInt) v_found1, .no]) () (lw_nos rfl) (xn (xsh (xcall C_released_items G_released_items hr (xa_cons (xv 2) xa_nil)))) (fun _ => rfl) (fun v_found1 =>
(xb_if (S := Unit) (slj := (fun s1 => [sF (rR (xt.cls 117) (Rc.nil.add "listed" (rLst rInt))) v_self, sF rInt v_item, sF rTx v_state, sF (rTup rInt) v_found1, .no])) () (lw_nos rfl) (xqnot (xqtrL (xfldR (xv 0) Fd.last B.cl_Unreleased B.no_Unreleased_listed)))
(xb_ret () (lw_nos rfl) (fun a => a) (fun _ => rfl) (xn (xcv (xeqd (r := (rTup rInt)) (xv 3) hr (xtup (r := rInt) xl_nil)))))
(xb_nil () (by walk_at "lw")) (fun s1 =>
(xb_ret () (lw_nos rfl) (fun a => a) (fun _ => rfl) (xn (xnot (xany (xfz (xnlc (xlc [("one", 4)] (fun x1 => [sF (rR (xt.cls 117) (Rc.nil.add "listed" (rLst rInt))) v_self, sF rInt v_item, sF rTx v_state, sF (rTup rInt) v_found1, sF rInt x1]) (xi_list (xfldR (xv 0) Fd.last B.cl_Unreleased B.no_Unreleased_listed)) (fun _ _ _ _ _ => (xg_name 4)) (fun _ => rfl) (fun _ _ _ _ _ x1 => xqs0) (fun _ _ _ _ _ x1 => (xcv (xinU (xv 4) (xv 3)))) (ok := (by decide +kernel : blkC ["self", "item", "state", "found", "one"] (defScope st_m_Unreleased_call) _ [("one", 4)] = true))))) B.z_any)))))))), ?_⟩
  all_goals (show _ = m_Unreleased_call v_self v_item v_state; unfold m_Unreleased_call; first | (simp only [R.bindOk, R.bindEr, R.bindNo, R.thnOk, R.thnEr, R.thnNo, R.thn_id, R.bind_bind, R.thn_bind, R.bind_ok, R.cond_ok, R.noerOk, R.bind_thn, R.thn_thn, cond_true, cond_false]; done) | rfl)
abbrev st_m_Locks_init : Stmt := inClass (top 19) 0
theorem sc_m_Locks_init : FnScope ["self", "listed"] ["self", "listed"] (defScope st_m_Locks_init) := ⟨rfl, rfl, rfl, by decide +kernel, rfl, by decide +kernel, by decide +kernel⟩
set_option maxHeartbeats 4000000 in
theorem ok_m_Locks_init (B : Bt P w K mg xt) {fa : Addr} {fd : FuncData} (Fn : Fun K "__init__" "Locks.__init__" st_m_Locks_init fa fd) {a_distinct_items : Addr} {d_distinct_items : FuncData} (C_distinct_items : Cal K mg "distinct_items" a_distinct_items d_distinct_items ["listed"]) (G_distinct_items : FnOk P w K mg base (L2.CX P w) 2 a_distinct_items d_distinct_items ["listed"] (spR xt (Pt.cons .sh (rTup rInt) inferInstance Pt.nil) (fun (a : ((List Int) × Unit)) => m_distinct_items a.1) (fun b => sL rInt b))) {ks : List Str} {dvs : List V} (hb : BndA K fd "self" [] "listed" ks dvs) : FnA P w K mg base (L2.CX P w) 3 fa ks (spA (spM xt (m0 (xt.cls 118)) (Pt.cons .sh (rTup rInt) inferInstance Pt.nil) (fun (g : Unit) (a : ((List Int) × Unit)) => m_Locks_init a.1) (fun o d => sO (mR (xt.cls 118) (Rc.nil.add "listed" (rLst rInt)) o d)) (fun _ (_ : Unit) => .no)) dvs) := by
  refine ok_MA (S' := (Unit × (List Int))) (y := "self") (pv := "listed") (N := ["listed"]) (kn := []) 0 Fn sc_m_Locks_init rfl hb (fun s => .ok s) (fun _ _ h => nomatch h) (fun cdv A outer s0 H E0_ hr p_ g_ a => ?_)
  obtain ⟨v_listed, ⟨⟩⟩ := a
  refine ⟨fun s => sO (mR (xt.cls 118) (Rc.nil.add "listed" (rLst rInt)) (some p_) s) :: List.replicate 1 .no, _, (xb_initX (Rw := Rc.nil) (a := ()) m0_mR 0 (fun v_self1 => [sO (mR (xt.cls 118) (Rc.nil.add "listed" (rLst rInt)) (some p_) ((), v_self1)), sF (rTup rInt) v_listed]) () (by walk_at "lw") rfl (xfz (xcall C_distinct_items G_distinct_items hr (xa_cons (xv 1) xa_nil))) B.cl_Locks B.no_Locks_listed (by first | decide | (dsimp only [Rc.add, Rc.nil]; decide)) (by first | decide | (dsimp only [Rc.add, Rc.nil]; decide)) (fun _ => rfl) (fun v_self1 =>
(xb_nil ((), v_self1) (by walk_at "lw")))), ?_, ?_⟩
  · show _ = m_Locks_init v_listed; unfold m_Locks_init; first | (simp only [R.bindOk, R.bindEr, R.bindNo, R.thnOk, R.thnEr, R.thnNo, R.thn_id, R.bind_bind, R.thn_bind, R.bind_ok, R.cond_ok, R.noerOk, R.bind_thn, R.thn_thn, cond_true, cond_false]; done) | rfl
  · intro s d h; cases h; exact Lw.refl _
abbrev st_m_Locks_call : Stmt := inClass (top 19) 1
theorem sc_m_Locks_call : FnScope ["self", "item", "state"] ["self", "item", "state"] (defScope st_m_Locks_call) := ⟨rfl, rfl, rfl, by decide +kernel, rfl, by decide +kernel, by decide +kernel⟩
set_option maxHeartbeats 4000000 in
theorem ok_m_Locks_call (B : Bt P w K mg xt) {fa : Addr} {fd : FuncData} (Fn : Fun K "__call__" "Locks.__call__" st_m_Locks_call fa fd) : FnOk P w K mg base (L2.CX P w) 1 fa fd ["self", "item", "state"] (spR xt (Pt.cons .sh (rR (xt.cls 118) (Rc.nil.add "listed" (rLst rInt))) inferInstance (Pt.cons .sh rInt inferInstance (Pt.cons .sh rTx inferInstance Pt.nil))) (fun (a : ((Unit × (List Int)) × Int × (List Nat) × Unit)) => m_Locks_call a.1 a.2.1 a.2.2.1) (fun b => sF rBl b)) := by
  refine ok_R (S' := Unit) 0 Fn sc_m_Locks_call rfl rfl (fun _ => .no) (fun _ _ h => nomatch h) (fun _ _ h => nomatch h) (fun cdv A outer s0 H E0_ hr a => ?_)
  obtain ⟨v_self, v_item, v_state, ⟨⟩⟩ := a
  refine ⟨fun _ => List.replicate 3 .no, _, (xb_ret () (lw_nos rfl) (fun a => a) (fun _ => rfl) (xn (xcv (xinL (xv 1) (xfldR (xv 0) Fd.last B.cl_Locks B.no_Locks_listed))))), ?_⟩
  all_goals (show _ = m_Locks_call v_self v_item v_state; unfold m_Locks_call; first | (simp only [R.bindOk, R.bindEr, R.bindNo, R.thnOk, R.thnEr, R.thnNo, R.thn_id, R.bind_bind, R.thn_bind, R.bind_ok, R.cond_ok, R.noerOk, R.bind_thn, R.thn_thn, cond_true, cond_false]; done) | rfl)
abbrev st_m_law_cell : Stmt := top 21
theorem sc_m_law_cell : FnScope ["_law_script", "_law_k"] ["_law_script", "_law_k"] (defScope st_m_law_cell) := ⟨rfl, rfl, rfl, by decide +kernel, rfl, by decide +kernel, by decide +kernel⟩
set_option maxHeartbeats 4000000 in
theorem ok_m_law_cell (B : Bt P w K mg xt) {fa : Addr} {fd : FuncData} (Fn : Fun K "_law_cell" "_law_cell" st_m_law_cell fa fd) : FnOk P w K mg base (L2.CX P w) 1 fa fd ["_law_script", "_law_k"] (spR xt (Pt.cons .bo (rScr K) inferInstance (Pt.cons .sh rInt inferInstance Pt.nil)) (fun (a : ((List Int) × Int × Unit)) => m_law_cell a.1 a.2.1) (fun b => sF rInt b)) := by
  refine ok_R (S' := Unit) 0 Fn sc_m_law_cell rfl rfl (fun _ => .no) (fun _ _ h => nomatch h) (fun _ _ h => nomatch h) (fun cdv A outer s0 H E0_ hr a => ?_)
  obtain ⟨v_law_script, v_law_k, ⟨⟩⟩ := a
  refine ⟨fun _ => List.replicate 2 .no, _, (xb_if (S := Unit) (slj := (fun s1 => [sB (rScr K) v_law_script, sF rInt v_law_k])) () (lw_nos rfl) (xqc (xlt (xv 1) (xlenS (xvb 0) B.z_len)))
(xb_ret () (lw_nos rfl) (fun a => a) (fun _ => rfl) (xn (xixS (xvb 0) (xv 1))))
(xb_nil () (by walk_at "lw")) (fun s1 =>
(xb_ret () (lw_nos rfl) (fun a => a) (fun _ => rfl) (xn xint)))), ?_⟩
  all_goals (show _ = m_law_cell v_law_script v_law_k; unfold m_law_cell; first | (simp only [R.bindOk, R.bindEr, R.bindNo, R.thnOk, R.thnEr, R.thnNo, R.thn_id, R.bind_bind, R.thn_bind, R.bind_ok, R.cond_ok, R.noerOk, R.bind_thn, R.thn_thn, cond_true, cond_false]; done) | rfl)
abbrev st_m_law_numbers : Stmt := top 22
theorem sc_m_law_numbers : FnScope ["_law_cell_here", "_law_many", "_law_limit", "_law_left", "_law_mixed", "_law_row", "_law_k"] ["_law_cell_here", "_law_many", "_law_limit"] (defScope st_m_law_numbers) := ⟨rfl, rfl, rfl, by decide +kernel, rfl, by decide +kernel, by decide +kernel⟩
set_option maxHeartbeats 4000000 in
theorem ok_m_law_numbers (B : Bt P w K mg xt) {fa : Addr} {fd : FuncData} (Fn : Fun K "_law_numbers" "_law_numbers" st_m_law_numbers fa fd) : FnOk P w K mg base (L2.CX P w) 1 fa fd ["_law_cell_here", "_law_many", "_law_limit"] (spR xt (Pt.cons .sh rInt inferInstance (Pt.cons .sh rInt inferInstance (Pt.cons .sh rInt inferInstance Pt.nil))) (fun (a : (Int × Int × Int × Unit)) => m_law_numbers a.1 a.2.1 a.2.2.1) (fun b => sL rInt b)) := by
  refine ok_R (S' := Unit) 4 Fn sc_m_law_numbers rfl rfl (fun _ => .no) (fun _ _ h => nomatch h) (fun _ _ h => nomatch h) (fun cdv A outer s0 H E0_ hr a => ?_)
  obtain ⟨v_law_cell_here, v_law_many, v_law_limit, ⟨⟩⟩ := a
  refine ⟨fun _ => List.replicate 7 .no, _, (xb_set 3 (fun v_law_left1 => [sF rInt v_law_cell_here, sF rInt v_law_many, sF rInt v_law_limit, sF rInt v_law_left1, .no, .no, .no]) () (lw_nos rfl) (xn xint) (fun _ => rfl) (fun v_law_left1 =>
(xb_ifv (S := Int) (slj := (fun s1 => [sF rInt v_law_cell_here, sF rInt v_law_many, sF rInt v_law_limit, sF rInt s1, .no, .no, .no])) () (((((powR (10 : Int) (18 : Int))).bind fun y2 => R.ok (v_law_cell_here - y2))).bind fun v_law_left3 =>
(R.ok v_law_left3)) ((R.ok v_law_left1)) (lw_nos rfl) (xqc (xge (xv 0) (xpow xint xint)))
(xb_set 3 (fun v_law_left3 => [sF rInt v_law_cell_here, sF rInt v_law_many, sF rInt v_law_limit, sF rInt v_law_left3, .no, .no, .no]) () (lw_nos rfl) (xn (xsub (xv 0) (xpow xint xint))) (fun _ => rfl) (fun v_law_left3 =>
(xb_nil v_law_left3 (by walk_at "lw"))))
(xb_nil v_law_left1 (by walk_at "lw")) (fun k => by first | (simp only [R.bindOk, R.bindEr, R.bindNo, R.thnOk, R.thnEr, R.thnNo, R.thn_id, R.bind_bind, R.thn_bind, R.bind_ok, R.cond_ok, R.noerOk, R.bind_thn, R.thn_thn, cond_true, cond_false]; done) | rfl) (fun k => by first | (simp only [R.bindOk, R.bindEr, R.bindNo, R.thnOk, R.thnEr, R.thnNo, R.thn_id, R.bind_bind, R.thn_bind, R.bind_ok, R.cond_ok, R.noerOk, R.bind_thn, R.thn_thn, cond_true, cond_false]; done) | rfl) (fun s1 =>
(xb_set 4 (fun v_law_mixed1 => [sF rInt v_law_cell_here, sF rInt v_law_many, sF rInt v_law_limit, sF rInt s1, sF rInt v_law_mixed1, .no, .no]) () (lw_nos rfl) (xn (xmod (xintI (xv 0) B.z_int) xint)) (fun _ => rfl) (fun v_law_mixed1 =>
(xb_set 5 (fun v_law_row1 => [sF rInt v_law_cell_here, sF rInt v_law_many, sF rInt v_law_limit, sF rInt s1, sF rInt v_law_mixed1, sL rInt v_law_row1, .no]) () (lw_nos rfl) (xn_nil (r := rInt)) (fun _ => rfl) (fun v_law_row1 =>
(xb_forv (T := (Int × (List Int) × Int)) (m_law_numbers_s1 v_law_limit) (fun t1 => [sF rInt v_law_cell_here, sF rInt v_law_many, sF rInt v_law_limit, sF rInt t1.2.2, sF rInt t1.1, sL rInt t1.2.1, .no]) (v_law_mixed1, v_law_row1, s1) () (lw_nos rfl) (by walk_at "lw") cnD_po (xi_rng (xv 1) B.z_range) (xg_name 6) (fun t1 x1 => [sF rInt v_law_cell_here, sF rInt v_law_many, sF rInt v_law_limit, sF rInt t1.2.2, sF rInt t1.1, sL rInt t1.2.1, sF rInt x1]) (fun _ _ => rfl) (fun t1 x1 => XB.cast
(xb_set 4 (fun v_law_mixed3 => [sF rInt v_law_cell_here, sF rInt v_law_many, sF rInt v_law_limit, sF rInt t1.2.2, sF rInt v_law_mixed3, sL rInt t1.2.1, sF rInt x1]) () (lw_nos rfl) (xn (xmod (xintI (xadd (xadd (xmul (xv 4) xint) (xmul xint (xv 6))) xint) B.z_int) xint)) (fun _ => rfl) (fun v_law_mixed3 =>
(xb_ifv (S := ((List Int) × Int)) (slj := (fun s2 => [sF rInt v_law_cell_here, sF rInt v_law_many, sF rInt v_law_limit, sF rInt s2.2, sF rInt v_law_mixed3, sL rInt s2.1, sF rInt x1])) () (((modR t1.2.2 v_law_limit)).bind fun y8 =>
(appR t1.2.1 y8).bind fun v_law_row4 =>
((divR t1.2.2 v_law_limit)).bind fun v_law_left6 =>
(R.ok (v_law_row4, v_law_left6))) (((((divR v_law_mixed3 (1021 : Int))).bind fun y9 => (modR y9 v_law_limit))).bind fun y10 =>
(appR t1.2.1 y10).bind fun v_law_row5 =>
(R.ok (v_law_row5, t1.2.2))) (lw_nos rfl) (xqc (xgt (xv 3) xint))
(xb_app 5 (fun v_law_row4 => [sF rInt v_law_cell_here, sF rInt v_law_many, sF rInt v_law_limit, sF rInt t1.2.2, sF rInt v_law_mixed3, sL rInt v_law_row4, sF rInt x1]) () (lw_nos rfl) rfl (xmod (xintI (xv 3) B.z_int) (xv 2)) (fun _ => rfl) (fun v_law_row4 =>
(xb_set 3 (fun v_law_left6 => [sF rInt v_law_cell_here, sF rInt v_law_many, sF rInt v_law_limit, sF rInt v_law_left6, sF rInt v_law_mixed3, sL rInt v_law_row4, sF rInt x1]) () (lw_nos rfl) (xn (xdiv (xv 3) (xv 2))) (fun _ => rfl) (fun v_law_left6 =>
(xb_nil (v_law_row4, v_law_left6) (by walk_at "lw"))))))
(xb_app 5 (fun v_law_row5 => [sF rInt v_law_cell_here, sF rInt v_law_many, sF rInt v_law_limit, sF rInt t1.2.2, sF rInt v_law_mixed3, sL rInt v_law_row5, sF rInt x1]) () (lw_nos rfl) rfl (xmod (xdiv (xv 4) xint) (xv 2)) (fun _ => rfl) (fun v_law_row5 =>
(xb_nil (v_law_row5, t1.2.2) (by walk_at "lw")))) (fun k => by first | (simp only [R.bindOk, R.bindEr, R.bindNo, R.thnOk, R.thnEr, R.thnNo, R.thn_id, R.bind_bind, R.thn_bind, R.bind_ok, R.cond_ok, R.noerOk, R.bind_thn, R.thn_thn, cond_true, cond_false]; done) | rfl) (fun k => by first | (simp only [R.bindOk, R.bindEr, R.bindNo, R.thnOk, R.thnEr, R.thnNo, R.thn_id, R.bind_bind, R.thn_bind, R.bind_ok, R.cond_ok, R.noerOk, R.bind_thn, R.thn_thn, cond_true, cond_false]; done) | rfl) (fun s2 =>
(xb_nil (v_law_mixed3, s2.1, s2.2) (by walk_at "lw")))))) (fun k => by unfold m_law_numbers_s1; first | (simp only [R.bindOk, R.bindEr, R.bindNo, R.thnOk, R.thnEr, R.thnNo, R.thn_id, R.bind_bind, R.thn_bind, R.bind_ok, R.cond_ok, R.noerOk, R.bind_thn, R.thn_thn, cond_true, cond_false]; done) | rfl)) (fun t2 =>
(xb_retO 5 () rfl t2.2.1 rfl (lw_nos rfl)))))))))))), ?_⟩
  all_goals (show _ = m_law_numbers v_law_cell_here v_law_many v_law_limit; unfold m_law_numbers; first | (simp only [R.bindOk, R.bindEr, R.bindNo, R.thnOk, R.thnEr, R.thnNo, R.thn_id, R.bind_bind, R.thn_bind, R.bind_ok, R.cond_ok, R.noerOk, R.bind_thn, R.thn_thn, cond_true, cond_false]; done) | rfl)
abbrev st_m_law_meet : Stmt := top 23
theorem sc_m_law_meet : FnScope ["_law_row", "_law_other", "_law_item"] ["_law_row", "_law_other"] (defScope st_m_law_meet) := ⟨rfl, rfl, rfl, by decide +kernel, rfl, by decide +kernel, by decide +kernel⟩
set_option maxHeartbeats 4000000 in
theorem ok_m_law_meet (B : Bt P w K mg xt) {fa : Addr} {fd : FuncData} (Fn : Fun K "_law_meet" "_law_meet" st_m_law_meet fa fd) : FnOk P w K mg base (L2.CX P w) 1 fa fd ["_law_row", "_law_other"] (spR xt (Pt.cons .sh (rLst rInt) inferInstance (Pt.cons .sh (rLst rInt) inferInstance Pt.nil)) (fun (a : ((List Int) × (List Int) × Unit)) => m_law_meet a.1 a.2.1) (fun b => sF rBl b)) := by
  refine ok_R (S' := Unit) 1 Fn sc_m_law_meet rfl rfl (fun _ => .no) (fun _ _ h => nomatch h) (fun _ _ h => nomatch h) (fun cdv A outer s0 H E0_ hr a => ?_)
  obtain ⟨v_law_row, v_law_other, ⟨⟩⟩ := a
  refine ⟨fun _ => List.replicate 3 .no, _, (xb_for (T := Unit) (m_law_meet_b1 v_law_other) (fun t1 => [sF (rLst rInt) v_law_row, sF (rLst rInt) v_law_other, .no]) () () (lw_nos rfl) (by walk_at "lw") cnD_po (xi_list (xv 0)) (xg_name 2) (fun t1 x1 => [sF (rLst rInt) v_law_row, sF (rLst rInt) v_law_other, sF rInt x1]) (fun _ _ => rfl) (fun t1 x1 => XB.cast
(xb_if () (lw_nos rfl) (xqc (xinL (xv 2) (xv 1)))
(xb_ret () (lw_nos rfl) (fun a => a) (fun _ => rfl) (xn xbl))
(xb_nil () (by walk_at "lw")) (fun s => xb_nil s (Lw.refl _))) (fun k => by unfold m_law_meet_b1; first | (simp only [R.bindOk, R.bindEr, R.bindNo, R.thnOk, R.thnEr, R.thnNo, R.thn_id, R.bind_bind, R.thn_bind, R.bind_ok, R.cond_ok, R.noerOk, R.bind_thn, R.thn_thn, cond_true, cond_false]; done) | rfl)) (fun t2 =>
(xb_ret () (lw_nos rfl) (fun a => a) (fun _ => rfl) (xn xbl)))), ?_⟩
  all_goals (show _ = m_law_meet v_law_row v_law_other; unfold m_law_meet; first | (simp only [R.bindOk, R.bindEr, R.bindNo, R.thnOk, R.thnEr, R.thnNo, R.thn_id, R.bind_bind, R.thn_bind, R.bind_ok, R.cond_ok, R.noerOk, R.bind_thn, R.thn_thn, cond_true, cond_false]; done) | rfl)
abbrev st_m_law_with : Stmt := top 24
theorem sc_m_law_with : FnScope ["_law_state_here", "_law_signs", "_law_item"] ["_law_state_here", "_law_signs"] (defScope st_m_law_with) := ⟨rfl, rfl, rfl, by decide +kernel, rfl, by decide +kernel, by decide +kernel⟩
set_option maxHeartbeats 4000000 in
theorem ok_m_law_with (B : Bt P w K mg xt) {fa : Addr} {fd : FuncData} (Fn : Fun K "_law_with" "_law_with" st_m_law_with fa fd) : FnOk P w K mg base (L2.CX P w) 1 fa fd ["_law_state_here", "_law_signs"] (spR xt (Pt.cons .sh rTx inferInstance (Pt.cons .sh rTx inferInstance Pt.nil)) (fun (a : ((List Nat) × (List Nat) × Unit)) => m_law_with a.1 a.2.1) (fun b => sF (rLst rInt) b)) := by
  refine ok_R (S' := Unit) 1 Fn sc_m_law_with rfl rfl (fun _ => .no) (fun _ _ h => nomatch h) (fun _ _ h => nomatch h) (fun cdv A outer s0 H E0_ hr a => ?_)
  obtain ⟨v_law_state_here, v_law_signs, ⟨⟩⟩ := a
  refine ⟨fun _ => List.replicate 3 .no, _, (xb_ret () (lw_nos rfl) (fun a => a) (fun _ => rfl) (xn (xfz (xnlc (xlc [("_law_item", 2)] (fun x1 => [sF rTx v_law_state_here, sF rTx v_law_signs, sF rInt x1]) (xi_rng (xlenT (xv 0) B.z_len) B.z_range) (fun _ _ _ _ _ => (xg_name 2)) (fun _ => rfl) (fun _ _ _ _ _ x1 => (xqs1 (xqc (xinT (xixT (xv 0) (xv 2)) (xv 1))))) (fun _ _ _ _ _ x1 => (xv 2)) (ok := (by decide +kernel : blkC ["_law_state_here", "_law_signs", "_law_item"] (defScope st_m_law_with) _ [("_law_item", 2)] = true))))))), ?_⟩
  all_goals (show _ = m_law_with v_law_state_here v_law_signs; unfold m_law_with; first | (simp only [R.bindOk, R.bindEr, R.bindNo, R.thnOk, R.thnEr, R.thnNo, R.thn_id, R.bind_bind, R.thn_bind, R.bind_ok, R.cond_ok, R.noerOk, R.bind_thn, R.thn_thn, cond_true, cond_false]; done) | rfl)
abbrev st_m_law_state : Stmt := top 25
theorem sc_m_law_state : FnScope ["_law_cell_here", "_law_size", "_law_sign"] ["_law_cell_here", "_law_size"] (defScope st_m_law_state) := ⟨rfl, rfl, rfl, by decide +kernel, rfl, by decide +kernel, by decide +kernel⟩
set_option maxHeartbeats 4000000 in
theorem ok_m_law_state (B : Bt P w K mg xt) {fa : Addr} {fd : FuncData} (Fn : Fun K "_law_state" "_law_state" st_m_law_state fa fd) {a__law_numbers : Addr} {d__law_numbers : FuncData} (C__law_numbers : Cal K mg "_law_numbers" a__law_numbers d__law_numbers ["_law_cell_here", "_law_many", "_law_limit"]) (G__law_numbers : FnOk P w K mg base (L2.CX P w) 1 a__law_numbers d__law_numbers ["_law_cell_here", "_law_many", "_law_limit"] (spR xt (Pt.cons .sh rInt inferInstance (Pt.cons .sh rInt inferInstance (Pt.cons .sh rInt inferInstance Pt.nil))) (fun (a : (Int × Int × Int × Unit)) => m_law_numbers a.1 a.2.1 a.2.2.1) (fun b => sL rInt b))) : FnOk P w K mg base (L2.CX P w) 2 fa fd ["_law_cell_here", "_law_size"] (spR xt (Pt.cons .sh rInt inferInstance (Pt.cons .sh rInt inferInstance Pt.nil)) (fun (a : (Int × Int × Unit)) => m_law_state a.1 a.2.1) (fun b => sF rTx b)) := by
  refine ok_R (S' := Unit) 1 Fn sc_m_law_state rfl rfl (fun _ => .no) (fun _ _ h => nomatch h) (fun _ _ h => nomatch h) (fun cdv A outer s0 H E0_ hr a => ?_)
  obtain ⟨v_law_cell_here, v_law_size, ⟨⟩⟩ := a
  refine ⟨fun _ => List.replicate 3 .no, _, (xb_ret () (lw_nos rfl) (fun a => a) (fun _ => rfl) (xn (xjoin (xtx []) (xfz (xnlc (xlc [("_law_sign", 2)] (fun x1 => [sF rInt v_law_cell_here, sF rInt v_law_size, sF rInt x1]) (xi_list (xfz (xcall C__law_numbers G__law_numbers hr (xa_cons (xv 0) (xa_cons (xv 1) (xa_cons xint xa_nil)))))) (fun _ _ _ _ _ => (xg_name 2)) (fun _ => rfl) (fun _ _ _ _ _ x1 => xqs0) (fun _ _ _ _ _ x1 => (xixT (xtx [46, 104, 114]) (xv 2))) (ok := (by decide +kernel : blkC ["_law_cell_here", "_law_size", "_law_sign"] (defScope st_m_law_state) _ [("_law_sign", 2)] = true)))))))), ?_⟩
  all_goals (show _ = m_law_state v_law_cell_here v_law_size; unfold m_law_state; first | (simp only [R.bindOk, R.bindEr, R.bindNo, R.thnOk, R.thnEr, R.thnNo, R.thn_id, R.bind_bind, R.thn_bind, R.bind_ok, R.cond_ok, R.noerOk, R.bind_thn, R.thn_thn, cond_true, cond_false]; done) | rfl)
abbrev st_m_law_holds : Stmt := top 26
theorem sc_m_law_holds : FnScope ["_law_row", "_law_many"] ["_law_row", "_law_many"] (defScope st_m_law_holds) := ⟨rfl, rfl, rfl, by decide +kernel, rfl, by decide +kernel, by decide +kernel⟩
set_option maxHeartbeats 4000000 in
theorem ok_m_law_holds (B : Bt P w K mg xt) {fa : Addr} {fd : FuncData} (Fn : Fun K "_law_holds" "_law_holds" st_m_law_holds fa fd) {a_Holds___init__ : Addr} {d_Holds___init__ : FuncData} (C_Holds___init__ : CalAD K mg (xt.cls 114) a_Holds___init__ "Holds" d_Holds___init__ "self" "least" "needed") (G_Holds___init__ : ∀ ks dvs, BndA K d_Holds___init__ "self" ["least"] "needed" ks dvs → FnA P w K mg base (L2.CX P w) 3 a_Holds___init__ ks (spA (spM xt (m0 (xt.cls 114)) (Pt.cons .sh (rOpt rInt) inferInstance (Pt.cons .sh (rTup rInt) inferInstance Pt.nil)) (fun (g : Unit) (a : ((Option Int) × (List Int) × Unit)) => m_Holds_init a.1 a.2.1) (fun o d => sO (mR (xt.cls 114) ((Rc.nil.add "needed" (rLst rInt)).add "least" rInt) o d)) (fun _ (_ : Unit) => .no)) dvs)) : FnOk P w K mg base (L2.CX P w) 5 fa fd ["_law_row", "_law_many"] (spR xt (Pt.cons .sh (rLst rInt) inferInstance (Pt.cons .sh rInt inferInstance Pt.nil)) (fun (a : ((List Int) × Int × Unit)) => m_law_holds a.1 a.2.1) (fun b => sF (rCd xt.cls) b)) := by
  refine ok_R (S' := Unit) 0 Fn sc_m_law_holds rfl rfl (fun _ => .no) (fun _ _ h => nomatch h) (fun _ _ h => nomatch h) (fun cdv A outer s0 H E0_ hr a => ?_)
  obtain ⟨v_law_row, v_law_many, ⟨⟩⟩ := a
  refine ⟨fun _ => List.replicate 2 .no, _, (xb_if (S := Unit) (slj := (fun s1 => [sF (rLst rInt) v_law_row, sF rInt v_law_many])) () (lw_nos rfl) (xqc (xeq (xlenL (xv 0) B.z_len) xint))
(xb_ret () (lw_nos rfl) (fun a => a) (fun _ => rfl) (xn (xcast (xfz (xmkK0' C_Holds___init__ G_Holds___init__ hr (xw_cons (xsome (xv 1)) xw_nil))) (fun _ _ _ h => cd_holds h))))
(xb_nil () (by walk_at "lw")) (fun s1 =>
(xb_if (S := Unit) (slj := (fun s2 => [sF (rLst rInt) v_law_row, sF rInt v_law_many])) () (lw_nos rfl) (xqc (xeq (xlenL (xv 0) B.z_len) xint))
(xb_ret () (lw_nos rfl) (fun a => a) (fun _ => rfl) (xn (xcast (xfz (xmkK' C_Holds___init__ G_Holds___init__ hr (xl_cons (xixL (xv 0) xint) xl_nil) (xw_cons (xsome (xv 1)) xw_nil))) (fun _ _ _ h => cd_holds h))))
(xb_nil () (by walk_at "lw")) (fun s2 =>
(xb_if (S := Unit) (slj := (fun s3 => [sF (rLst rInt) v_law_row, sF rInt v_law_many])) () (lw_nos rfl) (xqc (xeq (xlenL (xv 0) B.z_len) xint))
(xb_ret () (lw_nos rfl) (fun a => a) (fun _ => rfl) (xn (xcast (xfz (xmkK' C_Holds___init__ G_Holds___init__ hr (xl_cons (xixL (xv 0) xint) (xl_cons (xixL (xv 0) xint) xl_nil)) (xw_cons (xsome (xv 1)) xw_nil))) (fun _ _ _ h => cd_holds h))))
(xb_nil () (by walk_at "lw")) (fun s3 =>
(xb_if (S := Unit) (slj := (fun s4 => [sF (rLst rInt) v_law_row, sF rInt v_law_many])) () (lw_nos rfl) (xqc (xeq (xlenL (xv 0) B.z_len) xint))
(xb_ret () (lw_nos rfl) (fun a => a) (fun _ => rfl) (xn (xcast (xfz (xmkK' C_Holds___init__ G_Holds___init__ hr (xl_cons (xixL (xv 0) xint) (xl_cons (xixL (xv 0) xint) (xl_cons (xixL (xv 0) xint) xl_nil))) (xw_cons (xsome (xv 1)) xw_nil))) (fun _ _ _ h => cd_holds h))))
(xb_nil () (by walk_at "lw")) (fun s4 =>
(xb_ret () (lw_nos rfl) (fun a => a) (fun _ => rfl) (xn (xcast (xfz (xmkK' C_Holds___init__ G_Holds___init__ hr (xl_cons (xixL (xv 0) xint) (xl_cons (xixL (xv 0) xint) (xl_cons (xixL (xv 0) xint) (xl_cons (xixL (xv 0) xint) (xl_cons (xixL (xv 0) xint) xl_nil))))) (xw_cons (xsome (xv 1)) xw_nil))) (fun _ _ _ h => cd_holds h)))))))))))), ?_⟩
  all_goals (show _ = m_law_holds v_law_row v_law_many; unfold m_law_holds; first | (simp only [R.bindOk, R.bindEr, R.bindNo, R.thnOk, R.thnEr, R.thnNo, R.thn_id, R.bind_bind, R.thn_bind, R.bind_ok, R.cond_ok, R.noerOk, R.bind_thn, R.thn_thn, cond_true, cond_false]; done) | rfl)
abbrev st_m_law_plain : Stmt := top 27
theorem sc_m_law_plain : FnScope ["_law_row"] ["_law_row"] (defScope st_m_law_plain) := ⟨rfl, rfl, rfl, by decide +kernel, rfl, by decide +kernel, by decide +kernel⟩
set_option maxHeartbeats 4000000 in
theorem ok_m_law_plain (B : Bt P w K mg xt) {fa : Addr} {fd : FuncData} (Fn : Fun K "_law_plain" "_law_plain" st_m_law_plain fa fd) {a_Holds___init__ : Addr} {d_Holds___init__ : FuncData} (C_Holds___init__ : CalAD K mg (xt.cls 114) a_Holds___init__ "Holds" d_Holds___init__ "self" "least" "needed") (G_Holds___init__ : ∀ ks dvs, BndA K d_Holds___init__ "self" ["least"] "needed" ks dvs → FnA P w K mg base (L2.CX P w) 3 a_Holds___init__ ks (spA (spM xt (m0 (xt.cls 114)) (Pt.cons .sh (rOpt rInt) inferInstance (Pt.cons .sh (rTup rInt) inferInstance Pt.nil)) (fun (g : Unit) (a : ((Option Int) × (List Int) × Unit)) => m_Holds_init a.1 a.2.1) (fun o d => sO (mR (xt.cls 114) ((Rc.nil.add "needed" (rLst rInt)).add "least" rInt) o d)) (fun _ (_ : Unit) => .no)) dvs)) : FnOk P w K mg base (L2.CX P w) 5 fa fd ["_law_row"] (spR xt (Pt.cons .sh (rLst rInt) inferInstance Pt.nil) (fun (a : ((List Int) × Unit)) => m_law_plain a.1) (fun b => sF (rCd xt.cls) b)) := by
  refine ok_R (S' := Unit) 0 Fn sc_m_law_plain rfl rfl (fun _ => .no) (fun _ _ h => nomatch h) (fun _ _ h => nomatch h) (fun cdv A outer s0 H E0_ hr a => ?_)
  obtain ⟨v_law_row, ⟨⟩⟩ := a
  refine ⟨fun _ => List.replicate 1 .no, _, (xb_if (S := Unit) (slj := (fun s1 => [sF (rLst rInt) v_law_row])) () (lw_nos rfl) (xqc (xeq (xlenL (xv 0) B.z_len) xint))
(xb_ret () (lw_nos rfl) (fun a => a) (fun _ => rfl) (xn (xcast (xfz (xmkD0 C_Holds___init__ G_Holds___init__ hr none (fun _ => rfl))) (fun _ _ _ h => cd_holds h))))
(xb_nil () (by walk_at "lw")) (fun s1 =>
(xb_if (S := Unit) (slj := (fun s2 => [sF (rLst rInt) v_law_row])) () (lw_nos rfl) (xqc (xeq (xlenL (xv 0) B.z_len) xint))
(xb_ret () (lw_nos rfl) (fun a => a) (fun _ => rfl) (xn (xcast (xfz (xmkD C_Holds___init__ G_Holds___init__ hr none (fun _ => rfl) (xl_cons (xixL (xv 0) xint) xl_nil))) (fun _ _ _ h => cd_holds h))))
(xb_nil () (by walk_at "lw")) (fun s2 =>
(xb_if (S := Unit) (slj := (fun s3 => [sF (rLst rInt) v_law_row])) () (lw_nos rfl) (xqc (xeq (xlenL (xv 0) B.z_len) xint))
(xb_ret () (lw_nos rfl) (fun a => a) (fun _ => rfl) (xn (xcast (xfz (xmkD C_Holds___init__ G_Holds___init__ hr none (fun _ => rfl) (xl_cons (xixL (xv 0) xint) (xl_cons (xixL (xv 0) xint) xl_nil)))) (fun _ _ _ h => cd_holds h))))
(xb_nil () (by walk_at "lw")) (fun s3 =>
(xb_if (S := Unit) (slj := (fun s4 => [sF (rLst rInt) v_law_row])) () (lw_nos rfl) (xqc (xeq (xlenL (xv 0) B.z_len) xint))
(xb_ret () (lw_nos rfl) (fun a => a) (fun _ => rfl) (xn (xcast (xfz (xmkD C_Holds___init__ G_Holds___init__ hr none (fun _ => rfl) (xl_cons (xixL (xv 0) xint) (xl_cons (xixL (xv 0) xint) (xl_cons (xixL (xv 0) xint) xl_nil))))) (fun _ _ _ h => cd_holds h))))
(xb_nil () (by walk_at "lw")) (fun s4 =>
(xb_ret () (lw_nos rfl) (fun a => a) (fun _ => rfl) (xn (xcast (xfz (xmkD C_Holds___init__ G_Holds___init__ hr none (fun _ => rfl) (xl_cons (xixL (xv 0) xint) (xl_cons (xixL (xv 0) xint) (xl_cons (xixL (xv 0) xint) (xl_cons (xixL (xv 0) xint) (xl_cons (xixL (xv 0) xint) xl_nil))))))) (fun _ _ _ h => cd_holds h)))))))))))), ?_⟩
  all_goals (show _ = m_law_plain v_law_row; unfold m_law_plain; first | (simp only [R.bindOk, R.bindEr, R.bindNo, R.thnOk, R.thnEr, R.thnNo, R.thn_id, R.bind_bind, R.thn_bind, R.bind_ok, R.cond_ok, R.noerOk, R.bind_thn, R.thn_thn, cond_true, cond_false]; done) | rfl)
abbrev st_m_law_only : Stmt := top 28
theorem sc_m_law_only : FnScope ["_law_row"] ["_law_row"] (defScope st_m_law_only) := ⟨rfl, rfl, rfl, by decide +kernel, rfl, by decide +kernel, by decide +kernel⟩
set_option maxHeartbeats 4000000 in
theorem ok_m_law_only (B : Bt P w K mg xt) {fa : Addr} {fd : FuncData} (Fn : Fun K "_law_only" "_law_only" st_m_law_only fa fd) {a_HoldsOnly___init__ : Addr} {d_HoldsOnly___init__ : FuncData} (C_HoldsOnly___init__ : CalAS K mg (xt.cls 115) a_HoldsOnly___init__ "HoldsOnly" d_HoldsOnly___init__ "self" "exact") (G_HoldsOnly___init__ : ∀ ks dvs, BndA K d_HoldsOnly___init__ "self" [] "exact" ks dvs → FnA P w K mg base (L2.CX P w) 3 a_HoldsOnly___init__ ks (spA (spM xt (m0 (xt.cls 115)) (Pt.cons .sh (rTup rInt) inferInstance Pt.nil) (fun (g : Unit) (a : ((List Int) × Unit)) => m_HoldsOnly_init a.1) (fun o d => sO (mR (xt.cls 115) (Rc.nil.add "exact" (rLst rInt)) o d)) (fun _ (_ : Unit) => .no)) dvs)) : FnOk P w K mg base (L2.CX P w) 5 fa fd ["_law_row"] (spR xt (Pt.cons .sh (rLst rInt) inferInstance Pt.nil) (fun (a : ((List Int) × Unit)) => m_law_only a.1) (fun b => sF (rCd xt.cls) b)) := by
  refine ok_R (S' := Unit) 0 Fn sc_m_law_only rfl rfl (fun _ => .no) (fun _ _ h => nomatch h) (fun _ _ h => nomatch h) (fun cdv A outer s0 H E0_ hr a => ?_)
  obtain ⟨v_law_row, ⟨⟩⟩ := a
  refine ⟨fun _ => List.replicate 1 .no, _, (xb_if (S := Unit) (slj := (fun s1 => [sF (rLst rInt) v_law_row])) () (lw_nos rfl) (xqc (xeq (xlenL (xv 0) B.z_len) xint))
(xb_ret () (lw_nos rfl) (fun a => a) (fun _ => rfl) (xn (xcast (xfz (xmkS0 C_HoldsOnly___init__ G_HoldsOnly___init__ hr)) (fun _ _ _ h => cd_only h))))
(xb_nil () (by walk_at "lw")) (fun s1 =>
(xb_if (S := Unit) (slj := (fun s2 => [sF (rLst rInt) v_law_row])) () (lw_nos rfl) (xqc (xeq (xlenL (xv 0) B.z_len) xint))
(xb_ret () (lw_nos rfl) (fun a => a) (fun _ => rfl) (xn (xcast (xfz (xmkS C_HoldsOnly___init__ G_HoldsOnly___init__ hr (xl_cons (xixL (xv 0) xint) xl_nil))) (fun _ _ _ h => cd_only h))))
(xb_nil () (by walk_at "lw")) (fun s2 =>
(xb_if (S := Unit) (slj := (fun s3 => [sF (rLst rInt) v_law_row])) () (lw_nos rfl) (xqc (xeq (xlenL (xv 0) B.z_len) xint))
(xb_ret () (lw_nos rfl) (fun a => a) (fun _ => rfl) (xn (xcast (xfz (xmkS C_HoldsOnly___init__ G_HoldsOnly___init__ hr (xl_cons (xixL (xv 0) xint) (xl_cons (xixL (xv 0) xint) xl_nil)))) (fun _ _ _ h => cd_only h))))
(xb_nil () (by walk_at "lw")) (fun s3 =>
(xb_if (S := Unit) (slj := (fun s4 => [sF (rLst rInt) v_law_row])) () (lw_nos rfl) (xqc (xeq (xlenL (xv 0) B.z_len) xint))
(xb_ret () (lw_nos rfl) (fun a => a) (fun _ => rfl) (xn (xcast (xfz (xmkS C_HoldsOnly___init__ G_HoldsOnly___init__ hr (xl_cons (xixL (xv 0) xint) (xl_cons (xixL (xv 0) xint) (xl_cons (xixL (xv 0) xint) xl_nil))))) (fun _ _ _ h => cd_only h))))
(xb_nil () (by walk_at "lw")) (fun s4 =>
(xb_ret () (lw_nos rfl) (fun a => a) (fun _ => rfl) (xn (xcast (xfz (xmkS C_HoldsOnly___init__ G_HoldsOnly___init__ hr (xl_cons (xixL (xv 0) xint) (xl_cons (xixL (xv 0) xint) (xl_cons (xixL (xv 0) xint) (xl_cons (xixL (xv 0) xint) (xl_cons (xixL (xv 0) xint) xl_nil))))))) (fun _ _ _ h => cd_only h)))))))))))), ?_⟩
  all_goals (show _ = m_law_only v_law_row; unfold m_law_only; first | (simp only [R.bindOk, R.bindEr, R.bindNo, R.thnOk, R.thnEr, R.thnNo, R.thn_id, R.bind_bind, R.thn_bind, R.bind_ok, R.cond_ok, R.noerOk, R.bind_thn, R.thn_thn, cond_true, cond_false]; done) | rfl)
abbrev st_m_law_untaken : Stmt := top 29
theorem sc_m_law_untaken : FnScope ["_law_row"] ["_law_row"] (defScope st_m_law_untaken) := ⟨rfl, rfl, rfl, by decide +kernel, rfl, by decide +kernel, by decide +kernel⟩
set_option maxHeartbeats 4000000 in
theorem ok_m_law_untaken (B : Bt P w K mg xt) {fa : Addr} {fd : FuncData} (Fn : Fun K "_law_untaken" "_law_untaken" st_m_law_untaken fa fd) {a_Untaken___init__ : Addr} {d_Untaken___init__ : FuncData} (C_Untaken___init__ : CalAS K mg (xt.cls 116) a_Untaken___init__ "Untaken" d_Untaken___init__ "self" "listed") (G_Untaken___init__ : ∀ ks dvs, BndA K d_Untaken___init__ "self" [] "listed" ks dvs → FnA P w K mg base (L2.CX P w) 3 a_Untaken___init__ ks (spA (spM xt (m0 (xt.cls 116)) (Pt.cons .sh (rTup rInt) inferInstance Pt.nil) (fun (g : Unit) (a : ((List Int) × Unit)) => m_Untaken_init a.1) (fun o d => sO (mR (xt.cls 116) (Rc.nil.add "listed" (rLst rInt)) o d)) (fun _ (_ : Unit) => .no)) dvs)) : FnOk P w K mg base (L2.CX P w) 5 fa fd ["_law_row"] (spR xt (Pt.cons .sh (rLst rInt) inferInstance Pt.nil) (fun (a : ((List Int) × Unit)) => m_law_untaken a.1) (fun b => sF (rCd xt.cls) b)) := by
  refine ok_R (S' := Unit) 0 Fn sc_m_law_untaken rfl rfl (fun _ => .no) (fun _ _ h => nomatch h) (fun _ _ h => nomatch h) (fun cdv A outer s0 H E0_ hr a => ?_)
  obtain ⟨v_law_row, ⟨⟩⟩ := a
  refine ⟨fun _ => List.replicate 1 .no, _, (xb_if (S := Unit) (slj := (fun s1 => [sF (rLst rInt) v_law_row])) () (lw_nos rfl) (xqc (xeq (xlenL (xv 0) B.z_len) xint))
(xb_ret () (lw_nos rfl) (fun a => a) (fun _ => rfl) (xn (xcast (xfz (xmkS0 C_Untaken___init__ G_Untaken___init__ hr)) (fun _ _ _ h => cd_unt h))))
(xb_nil () (by walk_at "lw")) (fun s1 =>
(xb_if (S := Unit) (slj := (fun s2 => [sF (rLst rInt) v_law_row])) () (lw_nos rfl) (xqc (xeq (xlenL (xv 0) B.z_len) xint))
(xb_ret () (lw_nos rfl) (fun a => a) (fun _ => rfl) (xn (xcast (xfz (xmkS C_Untaken___init__ G_Untaken___init__ hr (xl_cons (xixL (xv 0) xint) xl_nil))) (fun _ _ _ h => cd_unt h))))
(xb_nil () (by walk_at "lw")) (fun s2 =>
(xb_if (S := Unit) (slj := (fun s3 => [sF (rLst rInt) v_law_row])) () (lw_nos rfl) (xqc (xeq (xlenL (xv 0) B.z_len) xint))
(xb_ret () (lw_nos rfl) (fun a => a) (fun _ => rfl) (xn (xcast (xfz (xmkS C_Untaken___init__ G_Untaken___init__ hr (xl_cons (xixL (xv 0) xint) (xl_cons (xixL (xv 0) xint) xl_nil)))) (fun _ _ _ h => cd_unt h))))
(xb_nil () (by walk_at "lw")) (fun s3 =>
(xb_if (S := Unit) (slj := (fun s4 => [sF (rLst rInt) v_law_row])) () (lw_nos rfl) (xqc (xeq (xlenL (xv 0) B.z_len) xint))
(xb_ret () (lw_nos rfl) (fun a => a) (fun _ => rfl) (xn (xcast (xfz (xmkS C_Untaken___init__ G_Untaken___init__ hr (xl_cons (xixL (xv 0) xint) (xl_cons (xixL (xv 0) xint) (xl_cons (xixL (xv 0) xint) xl_nil))))) (fun _ _ _ h => cd_unt h))))
(xb_nil () (by walk_at "lw")) (fun s4 =>
(xb_ret () (lw_nos rfl) (fun a => a) (fun _ => rfl) (xn (xcast (xfz (xmkS C_Untaken___init__ G_Untaken___init__ hr (xl_cons (xixL (xv 0) xint) (xl_cons (xixL (xv 0) xint) (xl_cons (xixL (xv 0) xint) (xl_cons (xixL (xv 0) xint) (xl_cons (xixL (xv 0) xint) xl_nil))))))) (fun _ _ _ h => cd_unt h)))))))))))), ?_⟩
  all_goals (show _ = m_law_untaken v_law_row; unfold m_law_untaken; first | (simp only [R.bindOk, R.bindEr, R.bindNo, R.thnOk, R.thnEr, R.thnNo, R.thn_id, R.bind_bind, R.thn_bind, R.bind_ok, R.cond_ok, R.noerOk, R.bind_thn, R.thn_thn, cond_true, cond_false]; done) | rfl)
abbrev st_m_law_unreleased : Stmt := top 30
theorem sc_m_law_unreleased : FnScope ["_law_row"] ["_law_row"] (defScope st_m_law_unreleased) := ⟨rfl, rfl, rfl, by decide +kernel, rfl, by decide +kernel, by decide +kernel⟩
set_option maxHeartbeats 4000000 in
theorem ok_m_law_unreleased (B : Bt P w K mg xt) {fa : Addr} {fd : FuncData} (Fn : Fun K "_law_unreleased" "_law_unreleased" st_m_law_unreleased fa fd) {a_Unreleased___init__ : Addr} {d_Unreleased___init__ : FuncData} (C_Unreleased___init__ : CalAS K mg (xt.cls 117) a_Unreleased___init__ "Unreleased" d_Unreleased___init__ "self" "listed") (G_Unreleased___init__ : ∀ ks dvs, BndA K d_Unreleased___init__ "self" [] "listed" ks dvs → FnA P w K mg base (L2.CX P w) 3 a_Unreleased___init__ ks (spA (spM xt (m0 (xt.cls 117)) (Pt.cons .sh (rTup rInt) inferInstance Pt.nil) (fun (g : Unit) (a : ((List Int) × Unit)) => m_Unreleased_init a.1) (fun o d => sO (mR (xt.cls 117) (Rc.nil.add "listed" (rLst rInt)) o d)) (fun _ (_ : Unit) => .no)) dvs)) : FnOk P w K mg base (L2.CX P w) 5 fa fd ["_law_row"] (spR xt (Pt.cons .sh (rLst rInt) inferInstance Pt.nil) (fun (a : ((List Int) × Unit)) => m_law_unreleased a.1) (fun b => sF (rCd xt.cls) b)) := by
  refine ok_R (S' := Unit) 0 Fn sc_m_law_unreleased rfl rfl (fun _ => .no) (fun _ _ h => nomatch h) (fun _ _ h => nomatch h) (fun cdv A outer s0 H E0_ hr a => ?_)
  obtain ⟨v_law_row, ⟨⟩⟩ := a
  refine ⟨fun _ => List.replicate 1 .no, _, (xb_if (S := Unit) (slj := (fun s1 => [sF (rLst rInt) v_law_row])) () (lw_nos rfl) (xqc (xeq (xlenL (xv 0) B.z_len) xint))
(xb_ret () (lw_nos rfl) (fun a => a) (fun _ => rfl) (xn (xcast (xfz (xmkS0 C_Unreleased___init__ G_Unreleased___init__ hr)) (fun _ _ _ h => cd_unr h))))
(xb_nil () (by walk_at "lw")) (fun s1 =>
(xb_if (S := Unit) (slj := (fun s2 => [sF (rLst rInt) v_law_row])) () (lw_nos rfl) (xqc (xeq (xlenL (xv 0) B.z_len) xint))
(xb_ret () (lw_nos rfl) (fun a => a) (fun _ => rfl) (xn (xcast (xfz (xmkS C_Unreleased___init__ G_Unreleased___init__ hr (xl_cons (xixL (xv 0) xint) xl_nil))) (fun _ _ _ h => cd_unr h))))
(xb_nil () (by walk_at "lw")) (fun s2 =>
(xb_if (S := Unit) (slj := (fun s3 => [sF (rLst rInt) v_law_row])) () (lw_nos rfl) (xqc (xeq (xlenL (xv 0) B.z_len) xint))
(xb_ret () (lw_nos rfl) (fun a => a) (fun _ => rfl) (xn (xcast (xfz (xmkS C_Unreleased___init__ G_Unreleased___init__ hr (xl_cons (xixL (xv 0) xint) (xl_cons (xixL (xv 0) xint) xl_nil)))) (fun _ _ _ h => cd_unr h))))
(xb_nil () (by walk_at "lw")) (fun s3 =>
(xb_if (S := Unit) (slj := (fun s4 => [sF (rLst rInt) v_law_row])) () (lw_nos rfl) (xqc (xeq (xlenL (xv 0) B.z_len) xint))
(xb_ret () (lw_nos rfl) (fun a => a) (fun _ => rfl) (xn (xcast (xfz (xmkS C_Unreleased___init__ G_Unreleased___init__ hr (xl_cons (xixL (xv 0) xint) (xl_cons (xixL (xv 0) xint) (xl_cons (xixL (xv 0) xint) xl_nil))))) (fun _ _ _ h => cd_unr h))))
(xb_nil () (by walk_at "lw")) (fun s4 =>
(xb_ret () (lw_nos rfl) (fun a => a) (fun _ => rfl) (xn (xcast (xfz (xmkS C_Unreleased___init__ G_Unreleased___init__ hr (xl_cons (xixL (xv 0) xint) (xl_cons (xixL (xv 0) xint) (xl_cons (xixL (xv 0) xint) (xl_cons (xixL (xv 0) xint) (xl_cons (xixL (xv 0) xint) xl_nil))))))) (fun _ _ _ h => cd_unr h)))))))))))), ?_⟩
  all_goals (show _ = m_law_unreleased v_law_row; unfold m_law_unreleased; first | (simp only [R.bindOk, R.bindEr, R.bindNo, R.thnOk, R.thnEr, R.thnNo, R.thn_id, R.bind_bind, R.thn_bind, R.bind_ok, R.cond_ok, R.noerOk, R.bind_thn, R.thn_thn, cond_true, cond_false]; done) | rfl)
abbrev st_m_law_locks : Stmt := top 31
theorem sc_m_law_locks : FnScope ["_law_row"] ["_law_row"] (defScope st_m_law_locks) := ⟨rfl, rfl, rfl, by decide +kernel, rfl, by decide +kernel, by decide +kernel⟩
set_option maxHeartbeats 4000000 in
theorem ok_m_law_locks (B : Bt P w K mg xt) {fa : Addr} {fd : FuncData} (Fn : Fun K "_law_locks" "_law_locks" st_m_law_locks fa fd) {a_Locks___init__ : Addr} {d_Locks___init__ : FuncData} (C_Locks___init__ : CalAS K mg (xt.cls 118) a_Locks___init__ "Locks" d_Locks___init__ "self" "listed") (G_Locks___init__ : ∀ ks dvs, BndA K d_Locks___init__ "self" [] "listed" ks dvs → FnA P w K mg base (L2.CX P w) 3 a_Locks___init__ ks (spA (spM xt (m0 (xt.cls 118)) (Pt.cons .sh (rTup rInt) inferInstance Pt.nil) (fun (g : Unit) (a : ((List Int) × Unit)) => m_Locks_init a.1) (fun o d => sO (mR (xt.cls 118) (Rc.nil.add "listed" (rLst rInt)) o d)) (fun _ (_ : Unit) => .no)) dvs)) : FnOk P w K mg base (L2.CX P w) 5 fa fd ["_law_row"] (spR xt (Pt.cons .sh (rLst rInt) inferInstance Pt.nil) (fun (a : ((List Int) × Unit)) => m_law_locks a.1) (fun b => sF (rCd xt.cls) b)) := by
  refine ok_R (S' := Unit) 0 Fn sc_m_law_locks rfl rfl (fun _ => .no) (fun _ _ h => nomatch h) (fun _ _ h => nomatch h) (fun cdv A outer s0 H E0_ hr a => ?_)
  obtain ⟨v_law_row, ⟨⟩⟩ := a
  refine ⟨fun _ => List.replicate 1 .no, _, (xb_if (S := Unit) (slj := (fun s1 => [sF (rLst rInt) v_law_row])) () (lw_nos rfl) (xqc (xeq (xlenL (xv 0) B.z_len) xint))
(xb_ret () (lw_nos rfl) (fun a => a) (fun _ => rfl) (xn (xcast (xfz (xmkS0 C_Locks___init__ G_Locks___init__ hr)) (fun _ _ _ h => cd_locks h))))
(xb_nil () (by walk_at "lw")) (fun s1 =>
(xb_if (S := Unit) (slj := (fun s2 => [sF (rLst rInt) v_law_row])) () (lw_nos rfl) (xqc (xeq (xlenL (xv 0) B.z_len) xint))
(xb_ret () (lw_nos rfl) (fun a => a) (fun _ => rfl) (xn (xcast (xfz (xmkS C_Locks___init__ G_Locks___init__ hr (xl_cons (xixL (xv 0) xint) xl_nil))) (fun _ _ _ h => cd_locks h))))
(xb_nil () (by walk_at "lw")) (fun s2 =>
(xb_if (S := Unit) (slj := (fun s3 => [sF (rLst rInt) v_law_row])) () (lw_nos rfl) (xqc (xeq (xlenL (xv 0) B.z_len) xint))
(xb_ret () (lw_nos rfl) (fun a => a) (fun _ => rfl) (xn (xcast (xfz (xmkS C_Locks___init__ G_Locks___init__ hr (xl_cons (xixL (xv 0) xint) (xl_cons (xixL (xv 0) xint) xl_nil)))) (fun _ _ _ h => cd_locks h))))
(xb_nil () (by walk_at "lw")) (fun s3 =>
(xb_if (S := Unit) (slj := (fun s4 => [sF (rLst rInt) v_law_row])) () (lw_nos rfl) (xqc (xeq (xlenL (xv 0) B.z_len) xint))
(xb_ret () (lw_nos rfl) (fun a => a) (fun _ => rfl) (xn (xcast (xfz (xmkS C_Locks___init__ G_Locks___init__ hr (xl_cons (xixL (xv 0) xint) (xl_cons (xixL (xv 0) xint) (xl_cons (xixL (xv 0) xint) xl_nil))))) (fun _ _ _ h => cd_locks h))))
(xb_nil () (by walk_at "lw")) (fun s4 =>
(xb_ret () (lw_nos rfl) (fun a => a) (fun _ => rfl) (xn (xcast (xfz (xmkS C_Locks___init__ G_Locks___init__ hr (xl_cons (xixL (xv 0) xint) (xl_cons (xixL (xv 0) xint) (xl_cons (xixL (xv 0) xint) (xl_cons (xixL (xv 0) xint) (xl_cons (xixL (xv 0) xint) xl_nil))))))) (fun _ _ _ h => cd_locks h)))))))))))), ?_⟩
  all_goals (show _ = m_law_locks v_law_row; unfold m_law_locks; first | (simp only [R.bindOk, R.bindEr, R.bindNo, R.thnOk, R.thnEr, R.thnNo, R.thn_id, R.bind_bind, R.thn_bind, R.bind_ok, R.cond_ok, R.noerOk, R.bind_thn, R.thn_thn, cond_true, cond_false]; done) | rfl)
abbrev st_m_law_made : Stmt := top 32
theorem sc_m_law_made : FnScope ["_law_kind", "_law_row", "_law_many"] ["_law_kind", "_law_row", "_law_many"] (defScope st_m_law_made) := ⟨rfl, rfl, rfl, by decide +kernel, rfl, by decide +kernel, by decide +kernel⟩
set_option maxHeartbeats 4000000 in
theorem ok_m_law_made (B : Bt P w K mg xt) {fa : Addr} {fd : FuncData} (Fn : Fun K "_law_made" "_law_made" st_m_law_made fa fd) {a__law_plain : Addr} {d__law_plain : FuncData} (C__law_plain : Cal K mg "_law_plain" a__law_plain d__law_plain ["_law_row"]) (G__law_plain : FnOk P w K mg base (L2.CX P w) 5 a__law_plain d__law_plain ["_law_row"] (spR xt (Pt.cons .sh (rLst rInt) inferInstance Pt.nil) (fun (a : ((List Int) × Unit)) => m_law_plain a.1) (fun b => sF (rCd xt.cls) b))) {a__law_holds : Addr} {d__law_holds : FuncData} (C__law_holds : Cal K mg "_law_holds" a__law_holds d__law_holds ["_law_row", "_law_many"]) (G__law_holds : FnOk P w K mg base (L2.CX P w) 5 a__law_holds d__law_holds ["_law_row", "_law_many"] (spR xt (Pt.cons .sh (rLst rInt) inferInstance (Pt.cons .sh rInt inferInstance Pt.nil)) (fun (a : ((List Int) × Int × Unit)) => m_law_holds a.1 a.2.1) (fun b => sF (rCd xt.cls) b))) {a__law_only : Addr} {d__law_only : FuncData} (C__law_only : Cal K mg "_law_only" a__law_only d__law_only ["_law_row"]) (G__law_only : FnOk P w K mg base (L2.CX P w) 5 a__law_only d__law_only ["_law_row"] (spR xt (Pt.cons .sh (rLst rInt) inferInstance Pt.nil) (fun (a : ((List Int) × Unit)) => m_law_only a.1) (fun b => sF (rCd xt.cls) b))) {a__law_untaken : Addr} {d__law_untaken : FuncData} (C__law_untaken : Cal K mg "_law_untaken" a__law_untaken d__law_untaken ["_law_row"]) (G__law_untaken : FnOk P w K mg base (L2.CX P w) 5 a__law_untaken d__law_untaken ["_law_row"] (spR xt (Pt.cons .sh (rLst rInt) inferInstance Pt.nil) (fun (a : ((List Int) × Unit)) => m_law_untaken a.1) (fun b => sF (rCd xt.cls) b))) {a__law_unreleased : Addr} {d__law_unreleased : FuncData} (C__law_unreleased : Cal K mg "_law_unreleased" a__law_unreleased d__law_unreleased ["_law_row"]) (G__law_unreleased : FnOk P w K mg base (L2.CX P w) 5 a__law_unreleased d__law_unreleased ["_law_row"] (spR xt (Pt.cons .sh (rLst rInt) inferInstance Pt.nil) (fun (a : ((List Int) × Unit)) => m_law_unreleased a.1) (fun b => sF (rCd xt.cls) b))) {a__law_locks : Addr} {d__law_locks : FuncData} (C__law_locks : Cal K mg "_law_locks" a__law_locks d__law_locks ["_law_row"]) (G__law_locks : FnOk P w K mg base (L2.CX P w) 5 a__law_locks d__law_locks ["_law_row"] (spR xt (Pt.cons .sh (rLst rInt) inferInstance Pt.nil) (fun (a : ((List Int) × Unit)) => m_law_locks a.1) (fun b => sF (rCd xt.cls) b))) : FnOk P w K mg base (L2.CX P w) 6 fa fd ["_law_kind", "_law_row", "_law_many"] (spR xt (Pt.cons .sh rInt inferInstance (Pt.cons .sh (rLst rInt) inferInstance (Pt.cons .sh (rOpt rInt) inferInstance Pt.nil))) (fun (a : (Int × (List Int) × (Option Int) × Unit)) => m_law_made a.1 a.2.1 a.2.2.1) (fun b => sF (rCd xt.cls) b)) := by
  refine ok_R (S' := Unit) 0 Fn sc_m_law_made rfl rfl (fun _ => .no) (fun _ _ h => nomatch h) (fun _ _ h => nomatch h) (fun cdv A outer s0 H E0_ hr a => ?_)
  obtain ⟨v_law_kind, v_law_row, v_law_many, ⟨⟩⟩ := a
  refine ⟨fun _ => List.replicate 3 .no, _, (xb_if (S := Unit) (slj := (fun s1 => [sF rInt v_law_kind, sF (rLst rInt) v_law_row, sF (rOpt rInt) v_law_many])) () (lw_nos rfl) (xqc (xeq (xv 0) xint))
(xb_ret () (lw_nos rfl) (fun a => a) (fun _ => rfl) (xn (xcast (xfz (xmk00 B.mi_Condition B.gm_Condition)) (fun _ _ _ h => cd_any h))))
(xb_nil () (by walk_at "lw")) (fun s1 =>
(xb_if (S := Unit) (slj := (fun s2 => [sF rInt v_law_kind, sF (rLst rInt) v_law_row, sF (rOpt rInt) v_law_many])) () (lw_nos rfl) (xqw (xqand (xqc (xeq (xv 0) xint)) (xqand1 (xqc (xisN (xv 2))))))
(xb_ret () (lw_nos rfl) (fun a => a) (fun _ => rfl) (xn (xsh (xcall C__law_plain G__law_plain hr (xa_cons (xv 1) xa_nil)))))
(xb_nil () (by walk_at "lw")) (fun s2 =>
(xb_if (S := Unit) (slj := (fun s3 => [sF rInt v_law_kind, sF (rLst rInt) v_law_row, sF (rOpt rInt) v_law_many])) () (lw_nos rfl) (xqc (xeq (xv 0) xint))
(xb_ret () (lw_nos rfl) (fun a => a) (fun _ => rfl) (xn (xsh (xcall C__law_holds G__law_holds hr (xa_cons (xv 1) (xa_cons (xopt (xv 2)) xa_nil))))))
(xb_nil () (by walk_at "lw")) (fun s3 =>
(xb_if (S := Unit) (slj := (fun s4 => [sF rInt v_law_kind, sF (rLst rInt) v_law_row, sF (rOpt rInt) v_law_many])) () (lw_nos rfl) (xqc (xeq (xv 0) xint))
(xb_ret () (lw_nos rfl) (fun a => a) (fun _ => rfl) (xn (xsh (xcall C__law_only G__law_only hr (xa_cons (xv 1) xa_nil)))))
(xb_nil () (by walk_at "lw")) (fun s4 =>
(xb_if (S := Unit) (slj := (fun s5 => [sF rInt v_law_kind, sF (rLst rInt) v_law_row, sF (rOpt rInt) v_law_many])) () (lw_nos rfl) (xqc (xeq (xv 0) xint))
(xb_ret () (lw_nos rfl) (fun a => a) (fun _ => rfl) (xn (xsh (xcall C__law_untaken G__law_untaken hr (xa_cons (xv 1) xa_nil)))))
(xb_nil () (by walk_at "lw")) (fun s5 =>
(xb_if (S := Unit) (slj := (fun s6 => [sF rInt v_law_kind, sF (rLst rInt) v_law_row, sF (rOpt rInt) v_law_many])) () (lw_nos rfl) (xqc (xeq (xv 0) xint))
(xb_ret () (lw_nos rfl) (fun a => a) (fun _ => rfl) (xn (xsh (xcall C__law_unreleased G__law_unreleased hr (xa_cons (xv 1) xa_nil)))))
(xb_nil () (by walk_at "lw")) (fun s6 =>
(xb_ret () (lw_nos rfl) (fun a => a) (fun _ => rfl) (xn (xsh (xcall C__law_locks G__law_locks hr (xa_cons (xv 1) xa_nil))))))))))))))))), ?_⟩
  all_goals (show _ = m_law_made v_law_kind v_law_row v_law_many; unfold m_law_made; first | (simp only [R.bindOk, R.bindEr, R.bindNo, R.thnOk, R.thnEr, R.thnNo, R.thn_id, R.bind_bind, R.thn_bind, R.bind_ok, R.cond_ok, R.noerOk, R.bind_thn, R.thn_thn, cond_true, cond_false]; done) | rfl)
abbrev st_m_law_inside : Stmt := top 34
theorem sc_m_law_inside : FnScope ["_law_row", "_law_other", "_law_item"] ["_law_row", "_law_other"] (defScope st_m_law_inside) := ⟨rfl, rfl, rfl, by decide +kernel, rfl, by decide +kernel, by decide +kernel⟩
set_option maxHeartbeats 4000000 in
theorem ok_m_law_inside (B : Bt P w K mg xt) {fa : Addr} {fd : FuncData} (Fn : Fun K "_law_inside" "_law_inside" st_m_law_inside fa fd) : FnOk P w K mg base (L2.CX P w) 1 fa fd ["_law_row", "_law_other"] (spR xt (Pt.cons .sh (rLst rInt) inferInstance (Pt.cons .sh (rLst rInt) inferInstance Pt.nil)) (fun (a : ((List Int) × (List Int) × Unit)) => m_law_inside a.1 a.2.1) (fun b => sF rBl b)) := by
  refine ok_R (S' := Unit) 1 Fn sc_m_law_inside rfl rfl (fun _ => .no) (fun _ _ h => nomatch h) (fun _ _ h => nomatch h) (fun cdv A outer s0 H E0_ hr a => ?_)
  obtain ⟨v_law_row, v_law_other, ⟨⟩⟩ := a
  refine ⟨fun _ => List.replicate 3 .no, _, (xb_for (T := Unit) (m_law_inside_b1 v_law_other) (fun t1 => [sF (rLst rInt) v_law_row, sF (rLst rInt) v_law_other, .no]) () () (lw_nos rfl) (by walk_at "lw") cnD_po (xi_list (xv 0)) (xg_name 2) (fun t1 x1 => [sF (rLst rInt) v_law_row, sF (rLst rInt) v_law_other, sF rInt x1]) (fun _ _ => rfl) (fun t1 x1 => XB.cast
(xb_if () (lw_nos rfl) (xqc (xniL (xv 2) (xv 1)))
(xb_ret () (lw_nos rfl) (fun a => a) (fun _ => rfl) (xn xbl))
(xb_nil () (by walk_at "lw")) (fun s => xb_nil s (Lw.refl _))) (fun k => by unfold m_law_inside_b1; first | (simp only [R.bindOk, R.bindEr, R.bindNo, R.thnOk, R.thnEr, R.thnNo, R.thn_id, R.bind_bind, R.thn_bind, R.bind_ok, R.cond_ok, R.noerOk, R.bind_thn, R.thn_thn, cond_true, cond_false]; done) | rfl)) (fun t2 =>
(xb_ret () (lw_nos rfl) (fun a => a) (fun _ => rfl) (xn xbl)))), ?_⟩
  all_goals (show _ = m_law_inside v_law_row v_law_other; unfold m_law_inside; first | (simp only [R.bindOk, R.bindEr, R.bindNo, R.thnOk, R.thnEr, R.thnNo, R.thn_id, R.bind_bind, R.thn_bind, R.bind_ok, R.cond_ok, R.noerOk, R.bind_thn, R.thn_thn, cond_true, cond_false]; done) | rfl)
abbrev st_m_law_truth : Stmt := top 33
theorem sc_m_law_truth : FnScope ["_law_kind", "_law_row", "_law_many", "_law_item", "_law_state_here", "_law_kept", "_law_found", "_law_seen", "_law_one"] ["_law_kind", "_law_row", "_law_many", "_law_item", "_law_state_here"] (defScope st_m_law_truth) := ⟨rfl, rfl, rfl, by decide +kernel, rfl, by decide +kernel, by decide +kernel⟩
set_option maxHeartbeats 4000000 in
theorem ok_m_law_truth (B : Bt P w K mg xt) {fa : Addr} {fd : FuncData} (Fn : Fun K "_law_truth" "_law_truth" st_m_law_truth fa fd) {a__law_with : Addr} {d__law_with : FuncData} (C__law_with : Cal K mg "_law_with" a__law_with d__law_with ["_law_state_here", "_law_signs"]) (G__law_with : FnOk P w K mg base (L2.CX P w) 1 a__law_with d__law_with ["_law_state_here", "_law_signs"] (spR xt (Pt.cons .sh rTx inferInstance (Pt.cons .sh rTx inferInstance Pt.nil)) (fun (a : ((List Nat) × (List Nat) × Unit)) => m_law_with a.1 a.2.1) (fun b => sF (rLst rInt) b))) {a__law_inside : Addr} {d__law_inside : FuncData} (C__law_inside : Cal K mg "_law_inside" a__law_inside d__law_inside ["_law_row", "_law_other"]) (G__law_inside : FnOk P w K mg base (L2.CX P w) 1 a__law_inside d__law_inside ["_law_row", "_law_other"] (spR xt (Pt.cons .sh (rLst rInt) inferInstance (Pt.cons .sh (rLst rInt) inferInstance Pt.nil)) (fun (a : ((List Int) × (List Int) × Unit)) => m_law_inside a.1 a.2.1) (fun b => sF rBl b))) {a__law_meet : Addr} {d__law_meet : FuncData} (C__law_meet : Cal K mg "_law_meet" a__law_meet d__law_meet ["_law_row", "_law_other"]) (G__law_meet : FnOk P w K mg base (L2.CX P w) 1 a__law_meet d__law_meet ["_law_row", "_law_other"] (spR xt (Pt.cons .sh (rLst rInt) inferInstance (Pt.cons .sh (rLst rInt) inferInstance Pt.nil)) (fun (a : ((List Int) × (List Int) × Unit)) => m_law_meet a.1 a.2.1) (fun b => sF rBl b))) : FnOk P w K mg base (L2.CX P w) 2 fa fd ["_law_kind", "_law_row", "_law_many", "_law_item", "_law_state_here"] (spR xt (Pt.cons .sh rInt inferInstance (Pt.cons .sh (rLst rInt) inferInstance (Pt.cons .sh (rOpt rInt) inferInstance (Pt.cons .sh rInt inferInstance (Pt.cons .sh rTx inferInstance Pt.nil))))) (fun (a : (Int × (List Int) × (Option Int) × Int × (List Nat) × Unit)) => m_law_truth a.1 a.2.1 a.2.2.1 a.2.2.2.1 a.2.2.2.2.1) (fun b => sF rBl b)) := by
  refine ok_R (S' := Unit) 4 Fn sc_m_law_truth rfl rfl (fun _ => .no) (fun _ _ h => nomatch h) (fun _ _ h => nomatch h) (fun cdv A outer s0 H E0_ hr a => ?_)
  obtain ⟨v_law_kind, v_law_row, v_law_many, v_law_item, v_law_state_here, ⟨⟩⟩ := a
  refine ⟨fun _ => List.replicate 9 .no, _, (xb_set 5 (fun v_law_kept1 => [sF rInt v_law_kind, sF (rLst rInt) v_law_row, sF (rOpt rInt) v_law_many, sF rInt v_law_item, sF rTx v_law_state_here, sF (rLst rInt) v_law_kept1, .no, .no, .no]) () (lw_nos rfl) (xn (xsh (xcall C__law_with G__law_with hr (xa_cons (xv 4) (xa_cons (xtx [104]) xa_nil))))) (fun _ => rfl) (fun v_law_kept1 =>
(xb_setLc 6 (fun v_law_found1 => [sF rInt v_law_kind, sF (rLst rInt) v_law_row, sF (rOpt rInt) v_law_many, sF rInt v_law_item, sF rTx v_law_state_here, sF (rLst rInt) v_law_kept1, sL rInt v_law_found1, .no, .no]) () (lw_nos rfl) (xlc [("_law_one", 8)] (fun x1 => [sF rInt v_law_kind, sF (rLst rInt) v_law_row, sF (rOpt rInt) v_law_many, sF rInt v_law_item, sF rTx v_law_state_here, sF (rLst rInt) v_law_kept1, .no, .no, sF rInt x1]) (xi_list (xv 5)) (fun _ _ _ _ _ => (xg_name 8)) (fun _ => rfl) (fun _ _ _ _ _ x1 => (xqs1 (xqc (xinL (xv 8) (xv 1))))) (fun _ _ _ _ _ x1 => (xv 8)) (ok := (by decide +kernel : blkC ["_law_kind", "_law_row", "_law_many", "_law_item", "_law_state_here", "_law_kept", "_law_found", "_law_seen", "_law_one"] (defScope st_m_law_truth) _ [("_law_one", 8)] = true))) (fun _ => rfl) (fun v_law_found1 =>
(xb_fz 6 [sF rInt v_law_kind, sF (rLst rInt) v_law_row, sF (rOpt rInt) v_law_many, sF rInt v_law_item, sF rTx v_law_state_here, sF (rLst rInt) v_law_kept1, sF (rLst rInt) v_law_found1, .no, .no] rfl rfl (xb_if (S := Unit) (slj := (fun s1 => [sF rInt v_law_kind, sF (rLst rInt) v_law_row, sF (rOpt rInt) v_law_many, sF rInt v_law_item, sF rTx v_law_state_here, sF (rLst rInt) v_law_kept1, sF (rLst rInt) v_law_found1, .no, .no])) () (lw_nos rfl) (xqc (xeq (xv 0) xint))
(xb_ret () (lw_nos rfl) (fun a => a) (fun _ => rfl) (xn xbl))
(xb_nil () (by walk_at "lw")) (fun s1 =>
(xb_if (S := Unit) (slj := (fun s2 => [sF rInt v_law_kind, sF (rLst rInt) v_law_row, sF (rOpt rInt) v_law_many, sF rInt v_law_item, sF rTx v_law_state_here, sF (rLst rInt) v_law_kept1, sF (rLst rInt) v_law_found1, .no, .no])) () (lw_nos rfl) (xqw (xqand (xqc (xeq (xv 0) xint)) (xqand1 (xqc (xniN (xv 2))))))
(xb_ret () (lw_nos rfl) (fun a => a) (fun _ => rfl) (xn (xcv (xge (xlenL (xv 6) B.z_len) (xopt (xv 2))))))
(xb_nil () (by walk_at "lw")) (fun s2 =>
(xb_if (S := Unit) (slj := (fun s3 => [sF rInt v_law_kind, sF (rLst rInt) v_law_row, sF (rOpt rInt) v_law_many, sF rInt v_law_item, sF rTx v_law_state_here, sF (rLst rInt) v_law_kept1, sF (rLst rInt) v_law_found1, .no, .no])) () (lw_nos rfl) (xqc (xeq (xv 0) xint))
(xb_ret () (lw_nos rfl) (fun a => a) (fun _ => rfl) (xn (xsh (xcall C__law_inside G__law_inside hr (xa_cons (xv 1) (xa_cons (xv 5) xa_nil))))))
(xb_nil () (by walk_at "lw")) (fun s3 =>
(xb_if (S := Unit) (slj := (fun s4 => [sF rInt v_law_kind, sF (rLst rInt) v_law_row, sF (rOpt rInt) v_law_many, sF rInt v_law_item, sF rTx v_law_state_here, sF (rLst rInt) v_law_kept1, sF (rLst rInt) v_law_found1, .no, .no])) () (lw_nos rfl) (xqc (xeq (xv 0) xint))
(xb_ret () (lw_nos rfl) (fun a => a) (fun _ => rfl) (xn (xand (xsh (xcall C__law_inside G__law_inside hr (xa_cons (xv 1) (xa_cons (xv 5) xa_nil)))) (xone (xsh (xcall C__law_inside G__law_inside hr (xa_cons (xv 5) (xa_cons (xv 1) xa_nil))))))))
(xb_nil () (by walk_at "lw")) (fun s4 =>
(xb_if (S := Unit) (slj := (fun s5 => [sF rInt v_law_kind, sF (rLst rInt) v_law_row, sF (rOpt rInt) v_law_many, sF rInt v_law_item, sF rTx v_law_state_here, sF (rLst rInt) v_law_kept1, sF (rLst rInt) v_law_found1, .no, .no])) () (lw_nos rfl) (xqc (xeq (xv 0) xint))
(xb_ret () (lw_nos rfl) (fun a => a) (fun _ => rfl) (xn (xcv (xinL (xv 3) (xv 1)))))
(xb_nil () (by walk_at "lw")) (fun s5 =>
(xb_set 7 (fun v_law_seen1 => [sF rInt v_law_kind, sF (rLst rInt) v_law_row, sF (rOpt rInt) v_law_many, sF rInt v_law_item, sF rTx v_law_state_here, sF (rLst rInt) v_law_kept1, sF (rLst rInt) v_law_found1, sF (rLst rInt) v_law_seen1, .no]) () (lw_nos rfl) (xn (xsh (xcall C__law_with G__law_with hr (xa_cons (xv 4) (xa_cons (xtx [104, 114]) xa_nil))))) (fun _ => rfl) (fun v_law_seen1 =>
(xb_ifv (S := (List Int)) (slj := (fun s6 => [sF rInt v_law_kind, sF (rLst rInt) v_law_row, sF (rOpt rInt) v_law_many, sF rInt v_law_item, sF rTx v_law_state_here, sF (rLst rInt) v_law_kept1, sF (rLst rInt) v_law_found1, sF (rLst rInt) s6, .no])) () (((m_law_with v_law_state_here ([114] : List Nat))).bind fun v_law_seen3 =>
(R.ok v_law_seen3)) ((R.ok v_law_seen1)) (lw_nos rfl) (xqc (xeq (xv 0) xint))
(xb_set 7 (fun v_law_seen3 => [sF rInt v_law_kind, sF (rLst rInt) v_law_row, sF (rOpt rInt) v_law_many, sF rInt v_law_item, sF rTx v_law_state_here, sF (rLst rInt) v_law_kept1, sF (rLst rInt) v_law_found1, sF (rLst rInt) v_law_seen3, .no]) () (lw_nos rfl) (xn (xsh (xcall C__law_with G__law_with hr (xa_cons (xv 4) (xa_cons (xtx [114]) xa_nil))))) (fun _ => rfl) (fun v_law_seen3 =>
(xb_nil v_law_seen3 (by walk_at "lw"))))
(xb_nil v_law_seen1 (by walk_at "lw")) (fun k => by first | (simp only [R.bindOk, R.bindEr, R.bindNo, R.thnOk, R.thnEr, R.thnNo, R.thn_id, R.bind_bind, R.thn_bind, R.bind_ok, R.cond_ok, R.noerOk, R.bind_thn, R.thn_thn, cond_true, cond_false]; done) | rfl) (fun k => by first | (simp only [R.bindOk, R.bindEr, R.bindNo, R.thnOk, R.thnEr, R.thnNo, R.thn_id, R.bind_bind, R.thn_bind, R.bind_ok, R.cond_ok, R.noerOk, R.bind_thn, R.thn_thn, cond_true, cond_false]; done) | rfl) (fun s6 =>
(xb_if (S := Unit) (slj := (fun s7 => [sF rInt v_law_kind, sF (rLst rInt) v_law_row, sF (rOpt rInt) v_law_many, sF rInt v_law_item, sF rTx v_law_state_here, sF (rLst rInt) v_law_kept1, sF (rLst rInt) v_law_found1, sF (rLst rInt) s6, .no])) () (lw_nos rfl) (xqc (xeqd (r := (rLst rInt)) (xv 1) hr (xfz (xn_nil (r := rInt)))))
(xb_ret () (lw_nos rfl) (fun a => a) (fun _ => rfl) (xn (xcv (xeqd (r := (rLst rInt)) (xv 7) hr (xfz (xn_nil (r := rInt)))))))
(xb_nil () (by walk_at "lw")) (fun s7 =>
(xb_ret () (lw_nos rfl) (fun a => a) (fun _ => rfl) (xn (xnot (xsh (xcall C__law_meet G__law_meet hr (xa_cons (xv 1) (xa_cons (xv 7) xa_nil)))))))))))))))))))))))))))), ?_⟩
  all_goals (show _ = m_law_truth v_law_kind v_law_row v_law_many v_law_item v_law_state_here; unfold m_law_truth; first | (simp only [R.bindOk, R.bindEr, R.bindNo, R.thnOk, R.thnEr, R.thnNo, R.thn_id, R.bind_bind, R.thn_bind, R.bind_ok, R.cond_ok, R.noerOk, R.bind_thn, R.thn_thn, cond_true, cond_false]; done) | rfl)
abbrev st_m_law_fine : Stmt := top 35
theorem sc_m_law_fine : FnScope ["_law_condition", "_law_kind", "_law_row", "_law_many", "_law_item", "_law_state_here", "_law_actual"] ["_law_condition", "_law_kind", "_law_row", "_law_many", "_law_item", "_law_state_here"] (defScope st_m_law_fine) := ⟨rfl, rfl, rfl, by decide +kernel, rfl, by decide +kernel, by decide +kernel⟩
set_option maxHeartbeats 4000000 in
theorem ok_m_law_fine (B : Bt P w K mg xt) {fa : Addr} {fd : FuncData} (Fn : Fun K "_law_fine" "_law_fine" st_m_law_fine fa fd) {a__law_truth : Addr} {d__law_truth : FuncData} (C__law_truth : Cal K mg "_law_truth" a__law_truth d__law_truth ["_law_kind", "_law_row", "_law_many", "_law_item", "_law_state_here"]) (G__law_truth : FnOk P w K mg base (L2.CX P w) 2 a__law_truth d__law_truth ["_law_kind", "_law_row", "_law_many", "_law_item", "_law_state_here"] (spR xt (Pt.cons .sh rInt inferInstance (Pt.cons .sh (rLst rInt) inferInstance (Pt.cons .sh (rOpt rInt) inferInstance (Pt.cons .sh rInt inferInstance (Pt.cons .sh rTx inferInstance Pt.nil))))) (fun (a : (Int × (List Int) × (Option Int) × Int × (List Nat) × Unit)) => m_law_truth a.1 a.2.1 a.2.2.1 a.2.2.2.1 a.2.2.2.2.1) (fun b => sF rBl b))) (HC : ∀ c, CdPr P w K mg base xt 29 (m_cond 24) c) : FnOk P w K mg base (L2.CX P w) 30 fa fd ["_law_condition", "_law_kind", "_law_row", "_law_many", "_law_item", "_law_state_here"] (spR xt (Pt.cons .sh (rCd xt.cls) inferInstance (Pt.cons .sh rInt inferInstance (Pt.cons .sh (rLst rInt) inferInstance (Pt.cons .sh (rOpt rInt) inferInstance (Pt.cons .sh rInt inferInstance (Pt.cons .sh rTx inferInstance Pt.nil)))))) (fun (a : (Cd × Int × (List Int) × (Option Int) × Int × (List Nat) × Unit)) => m_law_fine a.1 a.2.1 a.2.2.1 a.2.2.2.1 a.2.2.2.2.1 a.2.2.2.2.2.1) (fun b => sF rBl b)) := by
  refine ok_R (S' := Unit) 1 Fn sc_m_law_fine rfl rfl (fun _ => .no) (fun _ _ h => nomatch h) (fun _ _ h => nomatch h) (fun cdv A outer s0 H E0_ hr a => ?_)
  obtain ⟨v_law_condition, v_law_kind, v_law_row, v_law_many, v_law_item, v_law_state_here, ⟨⟩⟩ := a
  refine ⟨fun _ => List.replicate 7 .no, _, (xb_set 6 (fun v_law_actual1 => [sF (rCd xt.cls) v_law_condition, sF rInt v_law_kind, sF (rLst rInt) v_law_row, sF (rOpt rInt) v_law_many, sF rInt v_law_item, sF rTx v_law_state_here, sF rBl v_law_actual1]) () (lw_nos rfl) (xn (xsh (xcallCd HC hr (xv 0) (xa_cons (xv 4) (xa_cons (xv 5) xa_nil))))) (fun _ => rfl) (fun v_law_actual1 =>
(xb_ret () (lw_nos rfl) (fun a => a) (fun _ => rfl) (xn (xand (xisi (T := "bool") (xv 6) B.z_bool B.z_isinstance (fun _ => rfl)) (xone (xcv (xeq (xv 6) (xsh (xcall C__law_truth G__law_truth hr (xa_cons (xv 1) (xa_cons (xv 2) (xa_cons (xv 3) (xa_cons (xv 4) (xa_cons (xv 5) xa_nil))))))))))))))), ?_⟩
  all_goals (show _ = m_law_fine v_law_condition v_law_kind v_law_row v_law_many v_law_item v_law_state_here; unfold m_law_fine; first | (simp only [R.bindOk, R.bindEr, R.bindNo, R.thnOk, R.thnEr, R.thnNo, R.thn_id, R.bind_bind, R.thn_bind, R.bind_ok, R.cond_ok, R.noerOk, R.bind_thn, R.thn_thn, cond_true, cond_false]; done) | rfl)
abbrev st_m_law : Stmt := top 36
theorem sc_m_law : FnScope ["_law_script", "_law_plan", "_law_numbers_here", "_law_row", "_law_many", "_law_states", "_law_items", "_law_kind", "_law_condition", "_law_k"] ["_law_script"] (defScope st_m_law) := ⟨rfl, rfl, rfl, by decide +kernel, rfl, by decide +kernel, by decide +kernel⟩
set_option maxHeartbeats 4000000 in
theorem ok_m_law (B : Bt P w K mg xt) {fa : Addr} {fd : FuncData} (Fn : Fun K "law" "law" st_m_law fa fd) {a__law_numbers : Addr} {d__law_numbers : FuncData} (C__law_numbers : Cal K mg "_law_numbers" a__law_numbers d__law_numbers ["_law_cell_here", "_law_many", "_law_limit"]) (G__law_numbers : FnOk P w K mg base (L2.CX P w) 1 a__law_numbers d__law_numbers ["_law_cell_here", "_law_many", "_law_limit"] (spR xt (Pt.cons .sh rInt inferInstance (Pt.cons .sh rInt inferInstance (Pt.cons .sh rInt inferInstance Pt.nil))) (fun (a : (Int × Int × Int × Unit)) => m_law_numbers a.1 a.2.1 a.2.2.1) (fun b => sL rInt b))) {a__law_cell : Addr} {d__law_cell : FuncData} (C__law_cell : Cal K mg "_law_cell" a__law_cell d__law_cell ["_law_script", "_law_k"]) (G__law_cell : FnOk P w K mg base (L2.CX P w) 1 a__law_cell d__law_cell ["_law_script", "_law_k"] (spR xt (Pt.cons .bo (rScr K) inferInstance (Pt.cons .sh rInt inferInstance Pt.nil)) (fun (a : ((List Int) × Int × Unit)) => m_law_cell a.1 a.2.1) (fun b => sF rInt b))) {a__law_state : Addr} {d__law_state : FuncData} (C__law_state : Cal K mg "_law_state" a__law_state d__law_state ["_law_cell_here", "_law_size"]) (G__law_state : FnOk P w K mg base (L2.CX P w) 2 a__law_state d__law_state ["_law_cell_here", "_law_size"] (spR xt (Pt.cons .sh rInt inferInstance (Pt.cons .sh rInt inferInstance Pt.nil)) (fun (a : (Int × Int × Unit)) => m_law_state a.1 a.2.1) (fun b => sF rTx b))) {a__law_made : Addr} {d__law_made : FuncData} (C__law_made : Cal K mg "_law_made" a__law_made d__law_made ["_law_kind", "_law_row", "_law_many"]) (G__law_made : FnOk P w K mg base (L2.CX P w) 6 a__law_made d__law_made ["_law_kind", "_law_row", "_law_many"] (spR xt (Pt.cons .sh rInt inferInstance (Pt.cons .sh (rLst rInt) inferInstance (Pt.cons .sh (rOpt rInt) inferInstance Pt.nil))) (fun (a : (Int × (List Int) × (Option Int) × Unit)) => m_law_made a.1 a.2.1 a.2.2.1) (fun b => sF (rCd xt.cls) b))) {a__law_fine : Addr} {d__law_fine : FuncData} (C__law_fine : Cal K mg "_law_fine" a__law_fine d__law_fine ["_law_condition", "_law_kind", "_law_row", "_law_many", "_law_item", "_law_state_here"]) (G__law_fine : FnOk P w K mg base (L2.CX P w) 30 a__law_fine d__law_fine ["_law_condition", "_law_kind", "_law_row", "_law_many", "_law_item", "_law_state_here"] (spR xt (Pt.cons .sh (rCd xt.cls) inferInstance (Pt.cons .sh rInt inferInstance (Pt.cons .sh (rLst rInt) inferInstance (Pt.cons .sh (rOpt rInt) inferInstance (Pt.cons .sh rInt inferInstance (Pt.cons .sh rTx inferInstance Pt.nil)))))) (fun (a : (Cd × Int × (List Int) × (Option Int) × Int × (List Nat) × Unit)) => m_law_fine a.1 a.2.1 a.2.2.1 a.2.2.2.1 a.2.2.2.2.1 a.2.2.2.2.2.1) (fun b => sF rBl b))) : FnOk P w K mg base (L2.CX P w) 31 fa fd ["_law_script"] (spR xt (Pt.cons .bo (rScr K) inferInstance Pt.nil) (fun (a : ((List Int) × Unit)) => m_law a.1) (fun b => sF rBl b)) := by
  refine ok_R (S' := Unit) 9 Fn sc_m_law rfl rfl (fun _ => .no) (fun _ _ h => nomatch h) (fun _ _ h => nomatch h) (fun cdv A outer s0 H E0_ hr a => ?_)
  obtain ⟨v_law_script, ⟨⟩⟩ := a
  refine ⟨fun _ => List.replicate 10 .no, _, (xb_set 1 (fun v_law_plan1 => [sB (rScr K) v_law_script, sF (rLst rInt) v_law_plan1, .no, .no, .no, .no, .no, .no, .no, .no]) () (lw_nos rfl) (xn (xfz (xcall C__law_numbers G__law_numbers hr (xa_cons (xsh (xcall C__law_cell G__law_cell hr (xa_cons (xbo (xvb 0)) (xa_cons xint xa_nil)))) (xa_cons xint (xa_cons xint xa_nil)))))) (fun _ => rfl) (fun v_law_plan1 =>
(xb_set 2 (fun v_law_numbers_here1 => [sB (rScr K) v_law_script, sF (rLst rInt) v_law_plan1, sF (rLst rInt) v_law_numbers_here1, .no, .no, .no, .no, .no, .no, .no]) () (lw_nos rfl) (xn (xfz (xcall C__law_numbers G__law_numbers hr (xa_cons (xsh (xcall C__law_cell G__law_cell hr (xa_cons (xbo (xvb 0)) (xa_cons xint xa_nil)))) (xa_cons xint (xa_cons xint xa_nil)))))) (fun _ => rfl) (fun v_law_numbers_here1 =>
(xb_set 3 (fun v_law_row1 => [sB (rScr K) v_law_script, sF (rLst rInt) v_law_plan1, sF (rLst rInt) v_law_numbers_here1, sF (rLst rInt) v_law_row1, .no, .no, .no, .no, .no, .no]) () (lw_nos rfl) (xn (xfz (xslL (xv 2) xo_none (xo_some (xixL (xfz (xn_lst (r := rInt) (xl_cons xint (xl_cons xint (xl_cons xint (xl_cons xint (xl_cons xint (xl_cons xint (xl_cons xint (xl_cons xint (xl_cons xint (xl_cons xint (xl_cons xint (xl_cons xint xl_nil)))))))))))))) (xixL (xv 1) xint)))))) (fun _ => rfl) (fun v_law_row1 =>
(xb_set 4 (fun v_law_many1 => [sB (rScr K) v_law_script, sF (rLst rInt) v_law_plan1, sF (rLst rInt) v_law_numbers_here1, sF (rLst rInt) v_law_row1, sF (rOpt rInt) v_law_many1, .no, .no, .no, .no, .no]) () (lw_nos rfl) (xn (xixL (xfz (xn_lst (r := (rOpt rInt)) (xl_cons (xnone (r := rInt)) (xl_cons (xsome xint) (xl_cons (xsome xint) (xl_cons (xsome xint) (xl_cons (xsome xint) (xl_cons (xsome xint) xl_nil)))))))) (xmod (xixL (xv 1) xint) xint))) (fun _ => rfl) (fun v_law_many1 =>
(xb_set 5 (fun v_law_states1 => [sB (rScr K) v_law_script, sF (rLst rInt) v_law_plan1, sF (rLst rInt) v_law_numbers_here1, sF (rLst rInt) v_law_row1, sF (rOpt rInt) v_law_many1, sF (rLst rTx) v_law_states1, .no, .no, .no, .no]) () (lw_nos rfl) (xn (xfz (xnlc (xlc [("_law_k", 9)] (fun x1 => [sB (rScr K) v_law_script, sF (rLst rInt) v_law_plan1, sF (rLst rInt) v_law_numbers_here1, sF (rLst rInt) v_law_row1, sF (rOpt rInt) v_law_many1, .no, .no, .no, .no, sF rInt x1]) (xi_rng xint B.z_range) (fun _ _ _ _ _ => (xg_name 9)) (fun _ => rfl) (fun _ _ _ _ _ x1 => xqs0) (fun _ _ _ _ _ x1 => (xsh (xcall C__law_state G__law_state hr (xa_cons (xsh (xcall C__law_cell G__law_cell hr (xa_cons (xbo (xvb 0)) (xa_cons (xadd xint (xv 9)) xa_nil)))) (xa_cons (xadd xint (xmod (xixL (xv 1) (xadd xint (xv 9))) xint)) xa_nil))))) (ok := (by decide +kernel : blkC ["_law_script", "_law_plan", "_law_numbers_here", "_law_row", "_law_many", "_law_states", "_law_items", "_law_kind", "_law_condition", "_law_k"] (defScope st_m_law) _ [("_law_k", 9)] = true)))))) (fun _ => rfl) (fun v_law_states1 =>
(xb_setLc 6 (fun v_law_items1 => [sB (rScr K) v_law_script, sF (rLst rInt) v_law_plan1, sF (rLst rInt) v_law_numbers_here1, sF (rLst rInt) v_law_row1, sF (rOpt rInt) v_law_many1, sF (rLst rTx) v_law_states1, sL rInt v_law_items1, .no, .no, .no]) () (lw_nos rfl) (xlc [("_law_k", 9)] (fun x2 => [sB (rScr K) v_law_script, sF (rLst rInt) v_law_plan1, sF (rLst rInt) v_law_numbers_here1, sF (rLst rInt) v_law_row1, sF (rOpt rInt) v_law_many1, sF (rLst rTx) v_law_states1, .no, .no, .no, sF rInt x2]) (xi_rng xint B.z_range) (fun _ _ _ _ _ => (xg_name 9)) (fun _ => rfl) (fun _ _ _ _ _ x2 => xqs0) (fun _ _ _ _ _ x2 => (xmod (xixL (xv 1) (xadd xint (xv 9))) (xlenT (xixL (xv 5) (xv 9)) B.z_len))) (ok := (by decide +kernel : blkC ["_law_script", "_law_plan", "_law_numbers_here", "_law_row", "_law_many", "_law_states", "_law_items", "_law_kind", "_law_condition", "_law_k"] (defScope st_m_law) _ [("_law_k", 9)] = true))) (fun _ => rfl) (fun v_law_items1 =>
(xb_fz 6 [sB (rScr K) v_law_script, sF (rLst rInt) v_law_plan1, sF (rLst rInt) v_law_numbers_here1, sF (rLst rInt) v_law_row1, sF (rOpt rInt) v_law_many1, sF (rLst rTx) v_law_states1, sF (rLst rInt) v_law_items1, .no, .no, .no] rfl rfl (xb_for (T := Unit) (m_law_b1 v_law_row1 v_law_many1 v_law_states1 v_law_items1) (fun t1 => [sB (rScr K) v_law_script, sF (rLst rInt) v_law_plan1, sF (rLst rInt) v_law_numbers_here1, sF (rLst rInt) v_law_row1, sF (rOpt rInt) v_law_many1, sF (rLst rTx) v_law_states1, sF (rLst rInt) v_law_items1, .no, .no, .no]) () () (lw_nos rfl) (by walk_at "lw") cnD_po (xi_rng xint B.z_range) (xg_name 7) (fun t1 x3 => [sB (rScr K) v_law_script, sF (rLst rInt) v_law_plan1, sF (rLst rInt) v_law_numbers_here1, sF (rLst rInt) v_law_row1, sF (rOpt rInt) v_law_many1, sF (rLst rTx) v_law_states1, sF (rLst rInt) v_law_items1, sF rInt x3, .no, .no]) (fun _ _ => rfl) (fun t1 x3 => XB.cast
(xb_set 8 (fun v_law_condition1 => [sB (rScr K) v_law_script, sF (rLst rInt) v_law_plan1, sF (rLst rInt) v_law_numbers_here1, sF (rLst rInt) v_law_row1, sF (rOpt rInt) v_law_many1, sF (rLst rTx) v_law_states1, sF (rLst rInt) v_law_items1, sF rInt x3, sF (rCd xt.cls) v_law_condition1, .no]) () (lw_nos rfl) (xn (xsh (xcall C__law_made G__law_made hr (xa_cons (xv 7) (xa_cons (xv 3) (xa_cons (xv 4) xa_nil)))))) (fun _ => rfl) (fun v_law_condition1 =>
(xb_for (T := Unit) (m_law_b2 v_law_row1 v_law_many1 v_law_states1 v_law_items1 x3 v_law_condition1) (fun t2 => [sB (rScr K) v_law_script, sF (rLst rInt) v_law_plan1, sF (rLst rInt) v_law_numbers_here1, sF (rLst rInt) v_law_row1, sF (rOpt rInt) v_law_many1, sF (rLst rTx) v_law_states1, sF (rLst rInt) v_law_items1, sF rInt x3, sF (rCd xt.cls) v_law_condition1, .no]) () () (lw_nos rfl) (by walk_at "lw") cnD_po (xi_list (xfz (xn_lst (r := rInt) (xl_cons xint (xl_cons xint (xl_cons xint (xl_cons xint xl_nil))))))) (xg_name 9) (fun t2 x4 => [sB (rScr K) v_law_script, sF (rLst rInt) v_law_plan1, sF (rLst rInt) v_law_numbers_here1, sF (rLst rInt) v_law_row1, sF (rOpt rInt) v_law_many1, sF (rLst rTx) v_law_states1, sF (rLst rInt) v_law_items1, sF rInt x3, sF (rCd xt.cls) v_law_condition1, sF rInt x4]) (fun _ _ => rfl) (fun t2 x4 => XB.cast
(xb_if () (lw_nos rfl) (xqnot (xqv (xsh (xcall C__law_fine G__law_fine hr (xa_cons (xv 8) (xa_cons (xv 7) (xa_cons (xv 3) (xa_cons (xv 4) (xa_cons (xixL (xv 6) (xv 9)) (xa_cons (xixL (xv 5) (xv 9)) xa_nil))))))))))
(xb_ret () (lw_nos rfl) (fun a => a) (fun _ => rfl) (xn xbl))
(xb_nil () (by walk_at "lw")) (fun s => xb_nil s (Lw.refl _))) (fun k => by unfold m_law_b2; first | (simp only [R.bindOk, R.bindEr, R.bindNo, R.thnOk, R.thnEr, R.thnNo, R.thn_id, R.bind_bind, R.thn_bind, R.bind_ok, R.cond_ok, R.noerOk, R.bind_thn, R.thn_thn, cond_true, cond_false]; done) | rfl)) (fun t3 =>
(xb_nil () (by walk_at "lw")))))) (fun k => by unfold m_law_b1; first | (simp only [R.bindOk, R.bindEr, R.bindNo, R.thnOk, R.thnEr, R.thnNo, R.thn_id, R.bind_bind, R.thn_bind, R.bind_ok, R.cond_ok, R.noerOk, R.bind_thn, R.thn_thn, cond_true, cond_false]; done) | rfl)) (fun t4 =>
(xb_ret () (lw_nos rfl) (fun a => a) (fun _ => rfl) (xn xbl))))))))))))))))), ?_⟩
  all_goals (show _ = m_law v_law_script; unfold m_law; first | (simp only [R.bindOk, R.bindEr, R.bindNo, R.thnOk, R.thnEr, R.thnNo, R.thn_id, R.bind_bind, R.thn_bind, R.bind_ok, R.cond_ok, R.noerOk, R.bind_thn, R.thn_thn, cond_true, cond_false]; done) | rfl)
end
end Zk04
namespace Zk04
open PySem L2 LK LKX LKB LJ LG PyProof.Rows PySem.Spec
abbrev in_BadItem : Stmt := inClass (top 2) 0
set_option maxHeartbeats 4000000 in
theorem ini_BadItem {P : Program} {w : World} {K : PySem.W.Frag} {mg : Str → Option Value} {C fI cda cc : Addr} (S : SupC P K mg C fI "__init__" "BadItem.__init__" (defArgs in_BadItem) (defBody in_BadItem) (defScope in_BadItem) cda cc) (hno : PySem.W.findIn K (.ref C) "item" = some none) : Ini1 P w K mg C fI "item" :=
  fun A Rr h g d t os e t0 u X gl bl lim room he hke hq => init1 (s0 := .Pass ⟨0, 0, 0, 0⟩) S X gl bl lim room he hke (fun kV doc pm an ct => .of_eq rfl) rfl rfl (by decide) rfl rfl rfl rfl rfl (by decide +kernel) rfl rfl hno (fun L => rfl) (fun L => rfl) (fun L => rfl) (fun L => rfl) (fun L => rfl) (by decide) (by decide) hq
def spLaw (K : PySem.W.Frag) : Sp := fun vs H Q _ => ∃ (a : Addr) (ns : List Int), vs = [.ref a] ∧ SqL K H a (ns.map V.int) ∧ ns.length ≤ 63 ∧ ∀ H', Q (.bl true) H'
theorem law_imp {K : PySem.W.Frag} {xt : XT} (ht : ∀ ns : List Int, ns.length ≤ 63 → m_law ns = .ok true) : ∀ vs H Q E, spLaw K vs H Q E → (spR xt (Pt.cons .bo (rScr K) inferInstance Pt.nil) (fun (a : ((List Int) × Unit)) => m_law a.1) (fun b => sF rBl b)) vs H Q E := by
  rintro vs H Q E ⟨a, ns, rfl, hS, hl, q⟩
  refine ⟨H, (ns, ()), Ex.refl H, ⟨_, [], rfl, ⟨a, rfl, hS⟩, rfl⟩, ?_, fun b hb v F' H' g => ?_, fun er he => ?_⟩
  · show m_law ns ≠ _
    rw [ht ns hl]; exact fun z => nomatch z
  · have hb : m_law ns = .ok b := hb
    rw [ht ns hl] at hb; cases hb
    obtain ⟨v', e, ok⟩ := g.fz_at (i := 0) rfl
    cases Option.some.inj (Option.some.inj e)
    rw [show _ = _ from ok]; exact q H'
  · have he : m_law ns = .er er := he
    rw [ht ns hl] at he; cases he
set_option maxHeartbeats 8000000 in
theorem all_mk {l : PySem.W.OpenLaw} (hprog : l.prog = PySem.Challenge.pw_lockrules_k04_one_condition) {w : World} {K : PySem.W.Frag} {h : Heap} {mg : Str → Option Value} {fa kD12 k110 k111 k112 k113 k114 k115 k116 k117 k118 f0 f1 f2 f3 f4 f5 f6 f7 f8 f9 f10 f11 f12 f13 f14 f15 f16 f17 f18 f19 f20 f21 f22 f23 f24 f25 f26 f27 f28 f29 f30 f31 f32 f33 f34 f35 f36 f37 e1 fi1 cda1 cc1 : Addr} (ht : ∀ ns : List Int, ns.length ≤ 63 → m_law ns = .ok true) (X : K.In h) (G : h.Ns mainGlobals mg) (hfa : mg "law" = some (.ref fa))
    {od0 an0 od1 an1 od2 an2 od3 an3 od4 an4 od5 an5 od6 an6 od7 an7 od8 an8 od9 an9 od10 an10 od11 an11 od12 an12 od13 an13 od14 an14 od15 an15 od16 an16 od17 an17 od18 an18 od19 an19 od20 an20 od21 an21 od22 an22 od23 an23 od24 an24 od25 an25 od26 an26 od27 an27 od28 an28 od29 an29 od30 an30 od31 an31 od32 an32 od33 an33 od34 an34 od35 an35 od36 an36 od37 an37 : Option Addr} {sl0 sl1 sl2 sl3 sl4 sl5 sl6 sl7 sl8 sl9 sl10 sl11 sl12 sl13 sl14 sl15 sl16 sl17 sl18 sl19 sl20 sl21 sl22 sl23 sl24 sl25 sl26 sl27 sl28 sl29 sl30 sl31 sl32 sl33 sl34 sl35 sl36 sl37 : Array (Option Value)} {oc0 kV0 dc0 pm0 cd0 ct0 oc1 kV1 dc1 pm1 cd1 ct1 oc2 kV2 dc2 pm2 cd2 ct2 oc3 kV3 dc3 pm3 cd3 ct3 oc4 kV4 dc4 pm4 cd4 ct4 oc5 kV5 dc5 pm5 cd5 ct5 oc6 kV6 dc6 pm6 cd6 ct6 oc7 kV7 dc7 pm7 cd7 ct7 oc8 kV8 dc8 pm8 cd8 ct8 oc9 kV9 dc9 pm9 cd9 ct9 oc10 kV10 dc10 pm10 cd10 ct10 oc11 kV11 dc11 pm11 cd11 ct11 oc12 dc12 pm12 cd12 ct12 oc13 kV13 dc13 pm13 cd13 ct13 oc14 kV14 dc14 pm14 cd14 ct14 oc15 kV15 dc15 pm15 cd15 ct15 oc16 kV16 dc16 pm16 cd16 ct16 oc17 kV17 dc17 pm17 cd17 ct17 oc18 kV18 dc18 pm18 cd18 ct18 oc19 kV19 dc19 pm19 cd19 ct19 oc20 kV20 dc20 pm20 cd20 ct20 oc21 kV21 dc21 pm21 cd21 ct21 oc22 kV22 dc22 pm22 cd22 ct22 oc23 kV23 dc23 pm23 cd23 ct23 oc24 kV24 dc24 pm24 cd24 ct24 oc25 kV25 dc25 pm25 cd25 ct25 oc26 kV26 dc26 pm26 cd26 ct26 oc27 kV27 dc27 pm27 cd27 ct27 oc28 kV28 dc28 pm28 cd28 ct28 oc29 kV29 dc29 pm29 cd29 ct29 oc30 kV30 dc30 pm30 cd30 ct30 oc31 kV31 dc31 pm31 cd31 ct31 oc32 kV32 dc32 pm32 cd32 ct32 oc33 kV33 dc33 pm33 cd33 ct33 oc34 kV34 dc34 pm34 cd34 ct34 oc35 kV35 dc35 pm35 cd35 ct35 oc36 kV36 dc36 pm36 cd36 ct36 oc37 kV37 dc37 pm37 cd37 ct37 : Value}
    {nm1 q1 : Str} {N1 : Addr} {bs1 bm1 sub1 : List Value} {sn1 : List Str} {ab1 : Bool} {col1 : Option Bool} {dd1 : Option Addr} {kq0_1 kq1_1 kq2_1 kq3_1 kq5_1 : Option Value}
    {io1 ik1 id1 ip1 it1 ic1 il1 : Value} {ia1 ib1 icd1 ild1 : Option Addr} {is1 ics1 ils1 : Array (Option Value)} {vs1 : Array Value} {file1 : Str} {tf1 : Tok}
    {tk_LARGEST : Tok}
    (g_k118 : PySem.W.nsIn K mainGlobals "Locks" = some (some (.ref k118)))
    (p1_k118 : PySem.W.plainGet K k118 Str.empty = true)
    (p2_k118 : PySem.W.hasDictIn K k118 = true)
    (p3_k118 : PySem.W.plainOver K k118 = true)
    (p4_k118 : PySem.W.findIn K (.ref k118) "__setattr__" = some (some (.builtin "object.__setattr__")))
    (n_k118_listed : PySem.W.findIn K (.ref k118) "listed" = some none)
    (mk1_k118 : PySem.W.makesIn K k118 = true)
    (mk2_k118 : PySem.W.keepIn K (.ref k118) = true)
    (g_k117 : PySem.W.nsIn K mainGlobals "Unreleased" = some (some (.ref k117)))
    (p1_k117 : PySem.W.plainGet K k117 Str.empty = true)
    (p2_k117 : PySem.W.hasDictIn K k117 = true)
    (p3_k117 : PySem.W.plainOver K k117 = true)
    (p4_k117 : PySem.W.findIn K (.ref k117) "__setattr__" = some (some (.builtin "object.__setattr__")))
    (n_k117_listed : PySem.W.findIn K (.ref k117) "listed" = some none)
    (mk1_k117 : PySem.W.makesIn K k117 = true)
    (mk2_k117 : PySem.W.keepIn K (.ref k117) = true)
    (g_k116 : PySem.W.nsIn K mainGlobals "Untaken" = some (some (.ref k116)))
    (p1_k116 : PySem.W.plainGet K k116 Str.empty = true)
    (p2_k116 : PySem.W.hasDictIn K k116 = true)
    (p3_k116 : PySem.W.plainOver K k116 = true)
    (p4_k116 : PySem.W.findIn K (.ref k116) "__setattr__" = some (some (.builtin "object.__setattr__")))
    (n_k116_listed : PySem.W.findIn K (.ref k116) "listed" = some none)
    (mk1_k116 : PySem.W.makesIn K k116 = true)
    (mk2_k116 : PySem.W.keepIn K (.ref k116) = true)
    (g_k115 : PySem.W.nsIn K mainGlobals "HoldsOnly" = some (some (.ref k115)))
    (p1_k115 : PySem.W.plainGet K k115 Str.empty = true)
    (p2_k115 : PySem.W.hasDictIn K k115 = true)
    (p3_k115 : PySem.W.plainOver K k115 = true)
    (p4_k115 : PySem.W.findIn K (.ref k115) "__setattr__" = some (some (.builtin "object.__setattr__")))
    (n_k115_exact : PySem.W.findIn K (.ref k115) "exact" = some none)
    (mk1_k115 : PySem.W.makesIn K k115 = true)
    (mk2_k115 : PySem.W.keepIn K (.ref k115) = true)
    (g_k114 : PySem.W.nsIn K mainGlobals "Holds" = some (some (.ref k114)))
    (p1_k114 : PySem.W.plainGet K k114 Str.empty = true)
    (p2_k114 : PySem.W.hasDictIn K k114 = true)
    (p3_k114 : PySem.W.plainOver K k114 = true)
    (p4_k114 : PySem.W.findIn K (.ref k114) "__setattr__" = some (some (.builtin "object.__setattr__")))
    (n_k114_needed : PySem.W.findIn K (.ref k114) "needed" = some none)
    (n_k114_least : PySem.W.findIn K (.ref k114) "least" = some none)
    (mk1_k114 : PySem.W.makesIn K k114 = true)
    (mk2_k114 : PySem.W.keepIn K (.ref k114) = true)
    (g_k113 : PySem.W.nsIn K mainGlobals "Opposite" = some (some (.ref k113)))
    (p1_k113 : PySem.W.plainGet K k113 Str.empty = true)
    (p2_k113 : PySem.W.hasDictIn K k113 = true)
    (p3_k113 : PySem.W.plainOver K k113 = true)
    (p4_k113 : PySem.W.findIn K (.ref k113) "__setattr__" = some (some (.builtin "object.__setattr__")))
    (n_k113_inner : PySem.W.findIn K (.ref k113) "inner" = some none)
    (mk1_k113 : PySem.W.makesIn K k113 = true)
    (mk2_k113 : PySem.W.keepIn K (.ref k113) = true)
    (g_k112 : PySem.W.nsIn K mainGlobals "Either" = some (some (.ref k112)))
    (p1_k112 : PySem.W.plainGet K k112 Str.empty = true)
    (p2_k112 : PySem.W.hasDictIn K k112 = true)
    (p3_k112 : PySem.W.plainOver K k112 = true)
    (p4_k112 : PySem.W.findIn K (.ref k112) "__setattr__" = some (some (.builtin "object.__setattr__")))
    (n_k112_first : PySem.W.findIn K (.ref k112) "first" = some none)
    (n_k112_second : PySem.W.findIn K (.ref k112) "second" = some none)
    (mk1_k112 : PySem.W.makesIn K k112 = true)
    (mk2_k112 : PySem.W.keepIn K (.ref k112) = true)
    (g_k111 : PySem.W.nsIn K mainGlobals "Both" = some (some (.ref k111)))
    (p1_k111 : PySem.W.plainGet K k111 Str.empty = true)
    (p2_k111 : PySem.W.hasDictIn K k111 = true)
    (p3_k111 : PySem.W.plainOver K k111 = true)
    (p4_k111 : PySem.W.findIn K (.ref k111) "__setattr__" = some (some (.builtin "object.__setattr__")))
    (n_k111_first : PySem.W.findIn K (.ref k111) "first" = some none)
    (n_k111_second : PySem.W.findIn K (.ref k111) "second" = some none)
    (mk1_k111 : PySem.W.makesIn K k111 = true)
    (mk2_k111 : PySem.W.keepIn K (.ref k111) = true)
    (g_k110 : PySem.W.nsIn K mainGlobals "Condition" = some (some (.ref k110)))
    (p1_k110 : PySem.W.plainGet K k110 Str.empty = true)
    (p2_k110 : PySem.W.hasDictIn K k110 = true)
    (p3_k110 : PySem.W.plainOver K k110 = true)
    (p4_k110 : PySem.W.findIn K (.ref k110) "__setattr__" = some (some (.builtin "object.__setattr__")))
    (mk1_k110 : PySem.W.makesIn K k110 = true)
    (mk2_k110 : PySem.W.keepIn K (.ref k110) = true)
    (in_k110 : PySem.W.findIn K (.ref k110) "__init__" = some (some (.builtin "object.__init__")))
    (a0 : PySem.W.nsIn K mainGlobals "items_with" = some (some (.ref f0)))
    (l0 : K.lookup f0 = some ⟨oc0, od0, .func (PySem.W.fnOf "items_with" "items_with" (defArgs st_m_items_with) (defBody st_m_items_with) (defScope st_m_items_with) .none kV0 dc0 pm0 an0 cd0 ct0), sl0⟩) (c0 : PySem.W.codeIn K cd0 "items_with" = true) (k0 : PySem.W.keepIn K (.ref f0) = true)
    (a1 : PySem.W.nsIn K mainGlobals "held_items" = some (some (.ref f1)))
    (l1 : K.lookup f1 = some ⟨oc1, od1, .func (PySem.W.fnOf "held_items" "held_items" (defArgs st_m_held_items) (defBody st_m_held_items) (defScope st_m_held_items) .none kV1 dc1 pm1 an1 cd1 ct1), sl1⟩) (c1 : PySem.W.codeIn K cd1 "held_items" = true) (k1 : PySem.W.keepIn K (.ref f1) = true)
    (a2 : PySem.W.nsIn K mainGlobals "released_items" = some (some (.ref f2)))
    (l2 : K.lookup f2 = some ⟨oc2, od2, .func (PySem.W.fnOf "released_items" "released_items" (defArgs st_m_released_items) (defBody st_m_released_items) (defScope st_m_released_items) .none kV2 dc2 pm2 an2 cd2 ct2), sl2⟩) (c2 : PySem.W.codeIn K cd2 "released_items" = true) (k2 : PySem.W.keepIn K (.ref f2) = true)
    (a3 : PySem.W.nsIn K mainGlobals "taken_items" = some (some (.ref f3)))
    (l3 : K.lookup f3 = some ⟨oc3, od3, .func (PySem.W.fnOf "taken_items" "taken_items" (defArgs st_m_taken_items) (defBody st_m_taken_items) (defScope st_m_taken_items) .none kV3 dc3 pm3 an3 cd3 ct3), sl3⟩) (c3 : PySem.W.codeIn K cd3 "taken_items" = true) (k3 : PySem.W.keepIn K (.ref f3) = true)
    (a4 : PySem.W.nsIn K mainGlobals "distinct_items" = some (some (.ref f4)))
    (l4 : K.lookup f4 = some ⟨oc4, od4, .func (PySem.W.fnOf "distinct_items" "distinct_items" (defArgs st_m_distinct_items) (defBody st_m_distinct_items) (defScope st_m_distinct_items) .none kV4 dc4 pm4 an4 cd4 ct4), sl4⟩) (c4 : PySem.W.codeIn K cd4 "distinct_items" = true) (k4 : PySem.W.keepIn K (.ref f4) = true)
    (a5 : PySem.W.findIn K (.ref k110) "__call__" = some (some (.ref f5))) (ai5 : PySem.W.isFn K (.ref f5) = true) (af5 : PySem.W.fnIn K f5 = true)
    (l5 : K.lookup f5 = some ⟨oc5, od5, .func (PySem.W.fnOf "__call__" "Condition.__call__" (defArgs st_m_Condition_call) (defBody st_m_Condition_call) (defScope st_m_Condition_call) .none kV5 dc5 pm5 an5 cd5 ct5), sl5⟩) (c5 : PySem.W.codeIn K cd5 "Condition.__call__" = true) (k5 : PySem.W.keepIn K (.ref f5) = true)
    (a6 : PySem.W.findIn K (.ref k111) "__init__" = some (some (.ref f6))) (ai6 : PySem.W.isFn K (.ref f6) = true) (af6 : PySem.W.fnIn K f6 = true)
    (l6 : K.lookup f6 = some ⟨oc6, od6, .func (PySem.W.fnOf "__init__" "Both.__init__" (defArgs st_m_Both_init) (defBody st_m_Both_init) (defScope st_m_Both_init) .none kV6 dc6 pm6 an6 cd6 ct6), sl6⟩) (c6 : PySem.W.codeIn K cd6 "Both.__init__" = true) (k6 : PySem.W.keepIn K (.ref f6) = true)
    (a7 : PySem.W.findIn K (.ref k111) "__call__" = some (some (.ref f7))) (ai7 : PySem.W.isFn K (.ref f7) = true) (af7 : PySem.W.fnIn K f7 = true)
    (l7 : K.lookup f7 = some ⟨oc7, od7, .func (PySem.W.fnOf "__call__" "Both.__call__" (defArgs st_m_Both_call) (defBody st_m_Both_call) (defScope st_m_Both_call) .none kV7 dc7 pm7 an7 cd7 ct7), sl7⟩) (c7 : PySem.W.codeIn K cd7 "Both.__call__" = true) (k7 : PySem.W.keepIn K (.ref f7) = true)
    (a8 : PySem.W.findIn K (.ref k112) "__init__" = some (some (.ref f8))) (ai8 : PySem.W.isFn K (.ref f8) = true) (af8 : PySem.W.fnIn K f8 = true)
    (l8 : K.lookup f8 = some ⟨oc8, od8, .func (PySem.W.fnOf "__init__" "Either.__init__" (defArgs st_m_Either_init) (defBody st_m_Either_init) (defScope st_m_Either_init) .none kV8 dc8 pm8 an8 cd8 ct8), sl8⟩) (c8 : PySem.W.codeIn K cd8 "Either.__init__" = true) (k8 : PySem.W.keepIn K (.ref f8) = true)
    (a9 : PySem.W.findIn K (.ref k112) "__call__" = some (some (.ref f9))) (ai9 : PySem.W.isFn K (.ref f9) = true) (af9 : PySem.W.fnIn K f9 = true)
    (l9 : K.lookup f9 = some ⟨oc9, od9, .func (PySem.W.fnOf "__call__" "Either.__call__" (defArgs st_m_Either_call) (defBody st_m_Either_call) (defScope st_m_Either_call) .none kV9 dc9 pm9 an9 cd9 ct9), sl9⟩) (c9 : PySem.W.codeIn K cd9 "Either.__call__" = true) (k9 : PySem.W.keepIn K (.ref f9) = true)
    (a10 : PySem.W.findIn K (.ref k113) "__init__" = some (some (.ref f10))) (ai10 : PySem.W.isFn K (.ref f10) = true) (af10 : PySem.W.fnIn K f10 = true)
    (l10 : K.lookup f10 = some ⟨oc10, od10, .func (PySem.W.fnOf "__init__" "Opposite.__init__" (defArgs st_m_Opposite_init) (defBody st_m_Opposite_init) (defScope st_m_Opposite_init) .none kV10 dc10 pm10 an10 cd10 ct10), sl10⟩) (c10 : PySem.W.codeIn K cd10 "Opposite.__init__" = true) (k10 : PySem.W.keepIn K (.ref f10) = true)
    (a11 : PySem.W.findIn K (.ref k113) "__call__" = some (some (.ref f11))) (ai11 : PySem.W.isFn K (.ref f11) = true) (af11 : PySem.W.fnIn K f11 = true)
    (l11 : K.lookup f11 = some ⟨oc11, od11, .func (PySem.W.fnOf "__call__" "Opposite.__call__" (defArgs st_m_Opposite_call) (defBody st_m_Opposite_call) (defScope st_m_Opposite_call) .none kV11 dc11 pm11 an11 cd11 ct11), sl11⟩) (c11 : PySem.W.codeIn K cd11 "Opposite.__call__" = true) (k11 : PySem.W.keepIn K (.ref f11) = true)
    (a12 : PySem.W.findIn K (.ref k114) "__init__" = some (some (.ref f12))) (ai12 : PySem.W.isFn K (.ref f12) = true) (af12 : PySem.W.fnIn K f12 = true)
    (l12 : K.lookup f12 = some ⟨oc12, od12, .func (PySem.W.fnOf "__init__" "Holds.__init__" (defArgs st_m_Holds_init) (defBody st_m_Holds_init) (defScope st_m_Holds_init) .none (.ref kD12) dc12 pm12 an12 cd12 ct12), sl12⟩) (c12 : PySem.W.codeIn K cd12 "Holds.__init__" = true) (k12 : PySem.W.keepIn K (.ref f12) = true)
    (kd12 : PySem.W.nsIn K kD12 "least" = some (some .none))
    (a13 : PySem.W.findIn K (.ref k114) "__call__" = some (some (.ref f13))) (ai13 : PySem.W.isFn K (.ref f13) = true) (af13 : PySem.W.fnIn K f13 = true)
    (l13 : K.lookup f13 = some ⟨oc13, od13, .func (PySem.W.fnOf "__call__" "Holds.__call__" (defArgs st_m_Holds_call) (defBody st_m_Holds_call) (defScope st_m_Holds_call) .none kV13 dc13 pm13 an13 cd13 ct13), sl13⟩) (c13 : PySem.W.codeIn K cd13 "Holds.__call__" = true) (k13 : PySem.W.keepIn K (.ref f13) = true)
    (a14 : PySem.W.findIn K (.ref k115) "__init__" = some (some (.ref f14))) (ai14 : PySem.W.isFn K (.ref f14) = true) (af14 : PySem.W.fnIn K f14 = true)
    (l14 : K.lookup f14 = some ⟨oc14, od14, .func (PySem.W.fnOf "__init__" "HoldsOnly.__init__" (defArgs st_m_HoldsOnly_init) (defBody st_m_HoldsOnly_init) (defScope st_m_HoldsOnly_init) .none kV14 dc14 pm14 an14 cd14 ct14), sl14⟩) (c14 : PySem.W.codeIn K cd14 "HoldsOnly.__init__" = true) (k14 : PySem.W.keepIn K (.ref f14) = true)
    (a15 : PySem.W.findIn K (.ref k115) "__call__" = some (some (.ref f15))) (ai15 : PySem.W.isFn K (.ref f15) = true) (af15 : PySem.W.fnIn K f15 = true)
    (l15 : K.lookup f15 = some ⟨oc15, od15, .func (PySem.W.fnOf "__call__" "HoldsOnly.__call__" (defArgs st_m_HoldsOnly_call) (defBody st_m_HoldsOnly_call) (defScope st_m_HoldsOnly_call) .none kV15 dc15 pm15 an15 cd15 ct15), sl15⟩) (c15 : PySem.W.codeIn K cd15 "HoldsOnly.__call__" = true) (k15 : PySem.W.keepIn K (.ref f15) = true)
    (a16 : PySem.W.findIn K (.ref k116) "__init__" = some (some (.ref f16))) (ai16 : PySem.W.isFn K (.ref f16) = true) (af16 : PySem.W.fnIn K f16 = true)
    (l16 : K.lookup f16 = some ⟨oc16, od16, .func (PySem.W.fnOf "__init__" "Untaken.__init__" (defArgs st_m_Untaken_init) (defBody st_m_Untaken_init) (defScope st_m_Untaken_init) .none kV16 dc16 pm16 an16 cd16 ct16), sl16⟩) (c16 : PySem.W.codeIn K cd16 "Untaken.__init__" = true) (k16 : PySem.W.keepIn K (.ref f16) = true)
    (a17 : PySem.W.findIn K (.ref k116) "__call__" = some (some (.ref f17))) (ai17 : PySem.W.isFn K (.ref f17) = true) (af17 : PySem.W.fnIn K f17 = true)
    (l17 : K.lookup f17 = some ⟨oc17, od17, .func (PySem.W.fnOf "__call__" "Untaken.__call__" (defArgs st_m_Untaken_call) (defBody st_m_Untaken_call) (defScope st_m_Untaken_call) .none kV17 dc17 pm17 an17 cd17 ct17), sl17⟩) (c17 : PySem.W.codeIn K cd17 "Untaken.__call__" = true) (k17 : PySem.W.keepIn K (.ref f17) = true)
    (a18 : PySem.W.findIn K (.ref k117) "__init__" = some (some (.ref f18))) (ai18 : PySem.W.isFn K (.ref f18) = true) (af18 : PySem.W.fnIn K f18 = true)
    (l18 : K.lookup f18 = some ⟨oc18, od18, .func (PySem.W.fnOf "__init__" "Unreleased.__init__" (defArgs st_m_Unreleased_init) (defBody st_m_Unreleased_init) (defScope st_m_Unreleased_init) .none kV18 dc18 pm18 an18 cd18 ct18), sl18⟩) (c18 : PySem.W.codeIn K cd18 "Unreleased.__init__" = true) (k18 : PySem.W.keepIn K (.ref f18) = true)
    (a19 : PySem.W.findIn K (.ref k117) "__call__" = some (some (.ref f19))) (ai19 : PySem.W.isFn K (.ref f19) = true) (af19 : PySem.W.fnIn K f19 = true)
    (l19 : K.lookup f19 = some ⟨oc19, od19, .func (PySem.W.fnOf "__call__" "Unreleased.__call__" (defArgs st_m_Unreleased_call) (defBody st_m_Unreleased_call) (defScope st_m_Unreleased_call) .none kV19 dc19 pm19 an19 cd19 ct19), sl19⟩) (c19 : PySem.W.codeIn K cd19 "Unreleased.__call__" = true) (k19 : PySem.W.keepIn K (.ref f19) = true)
    (a20 : PySem.W.findIn K (.ref k118) "__init__" = some (some (.ref f20))) (ai20 : PySem.W.isFn K (.ref f20) = true) (af20 : PySem.W.fnIn K f20 = true)
    (l20 : K.lookup f20 = some ⟨oc20, od20, .func (PySem.W.fnOf "__init__" "Locks.__init__" (defArgs st_m_Locks_init) (defBody st_m_Locks_init) (defScope st_m_Locks_init) .none kV20 dc20 pm20 an20 cd20 ct20), sl20⟩) (c20 : PySem.W.codeIn K cd20 "Locks.__init__" = true) (k20 : PySem.W.keepIn K (.ref f20) = true)
    (a21 : PySem.W.findIn K (.ref k118) "__call__" = some (some (.ref f21))) (ai21 : PySem.W.isFn K (.ref f21) = true) (af21 : PySem.W.fnIn K f21 = true)
    (l21 : K.lookup f21 = some ⟨oc21, od21, .func (PySem.W.fnOf "__call__" "Locks.__call__" (defArgs st_m_Locks_call) (defBody st_m_Locks_call) (defScope st_m_Locks_call) .none kV21 dc21 pm21 an21 cd21 ct21), sl21⟩) (c21 : PySem.W.codeIn K cd21 "Locks.__call__" = true) (k21 : PySem.W.keepIn K (.ref f21) = true)
    (a22 : PySem.W.nsIn K mainGlobals "_law_cell" = some (some (.ref f22)))
    (l22 : K.lookup f22 = some ⟨oc22, od22, .func (PySem.W.fnOf "_law_cell" "_law_cell" (defArgs st_m_law_cell) (defBody st_m_law_cell) (defScope st_m_law_cell) .none kV22 dc22 pm22 an22 cd22 ct22), sl22⟩) (c22 : PySem.W.codeIn K cd22 "_law_cell" = true) (k22 : PySem.W.keepIn K (.ref f22) = true)
    (a23 : PySem.W.nsIn K mainGlobals "_law_numbers" = some (some (.ref f23)))
    (l23 : K.lookup f23 = some ⟨oc23, od23, .func (PySem.W.fnOf "_law_numbers" "_law_numbers" (defArgs st_m_law_numbers) (defBody st_m_law_numbers) (defScope st_m_law_numbers) .none kV23 dc23 pm23 an23 cd23 ct23), sl23⟩) (c23 : PySem.W.codeIn K cd23 "_law_numbers" = true) (k23 : PySem.W.keepIn K (.ref f23) = true)
    (a24 : PySem.W.nsIn K mainGlobals "_law_meet" = some (some (.ref f24)))
    (l24 : K.lookup f24 = some ⟨oc24, od24, .func (PySem.W.fnOf "_law_meet" "_law_meet" (defArgs st_m_law_meet) (defBody st_m_law_meet) (defScope st_m_law_meet) .none kV24 dc24 pm24 an24 cd24 ct24), sl24⟩) (c24 : PySem.W.codeIn K cd24 "_law_meet" = true) (k24 : PySem.W.keepIn K (.ref f24) = true)
    (a25 : PySem.W.nsIn K mainGlobals "_law_with" = some (some (.ref f25)))
    (l25 : K.lookup f25 = some ⟨oc25, od25, .func (PySem.W.fnOf "_law_with" "_law_with" (defArgs st_m_law_with) (defBody st_m_law_with) (defScope st_m_law_with) .none kV25 dc25 pm25 an25 cd25 ct25), sl25⟩) (c25 : PySem.W.codeIn K cd25 "_law_with" = true) (k25 : PySem.W.keepIn K (.ref f25) = true)
    (a26 : PySem.W.nsIn K mainGlobals "_law_state" = some (some (.ref f26)))
    (l26 : K.lookup f26 = some ⟨oc26, od26, .func (PySem.W.fnOf "_law_state" "_law_state" (defArgs st_m_law_state) (defBody st_m_law_state) (defScope st_m_law_state) .none kV26 dc26 pm26 an26 cd26 ct26), sl26⟩) (c26 : PySem.W.codeIn K cd26 "_law_state" = true) (k26 : PySem.W.keepIn K (.ref f26) = true)
    (a27 : PySem.W.nsIn K mainGlobals "_law_holds" = some (some (.ref f27)))
    (l27 : K.lookup f27 = some ⟨oc27, od27, .func (PySem.W.fnOf "_law_holds" "_law_holds" (defArgs st_m_law_holds) (defBody st_m_law_holds) (defScope st_m_law_holds) .none kV27 dc27 pm27 an27 cd27 ct27), sl27⟩) (c27 : PySem.W.codeIn K cd27 "_law_holds" = true) (k27 : PySem.W.keepIn K (.ref f27) = true)
    (a28 : PySem.W.nsIn K mainGlobals "_law_plain" = some (some (.ref f28)))
    (l28 : K.lookup f28 = some ⟨oc28, od28, .func (PySem.W.fnOf "_law_plain" "_law_plain" (defArgs st_m_law_plain) (defBody st_m_law_plain) (defScope st_m_law_plain) .none kV28 dc28 pm28 an28 cd28 ct28), sl28⟩) (c28 : PySem.W.codeIn K cd28 "_law_plain" = true) (k28 : PySem.W.keepIn K (.ref f28) = true)
    (a29 : PySem.W.nsIn K mainGlobals "_law_only" = some (some (.ref f29)))
    (l29 : K.lookup f29 = some ⟨oc29, od29, .func (PySem.W.fnOf "_law_only" "_law_only" (defArgs st_m_law_only) (defBody st_m_law_only) (defScope st_m_law_only) .none kV29 dc29 pm29 an29 cd29 ct29), sl29⟩) (c29 : PySem.W.codeIn K cd29 "_law_only" = true) (k29 : PySem.W.keepIn K (.ref f29) = true)
    (a30 : PySem.W.nsIn K mainGlobals "_law_untaken" = some (some (.ref f30)))
    (l30 : K.lookup f30 = some ⟨oc30, od30, .func (PySem.W.fnOf "_law_untaken" "_law_untaken" (defArgs st_m_law_untaken) (defBody st_m_law_untaken) (defScope st_m_law_untaken) .none kV30 dc30 pm30 an30 cd30 ct30), sl30⟩) (c30 : PySem.W.codeIn K cd30 "_law_untaken" = true) (k30 : PySem.W.keepIn K (.ref f30) = true)
    (a31 : PySem.W.nsIn K mainGlobals "_law_unreleased" = some (some (.ref f31)))
    (l31 : K.lookup f31 = some ⟨oc31, od31, .func (PySem.W.fnOf "_law_unreleased" "_law_unreleased" (defArgs st_m_law_unreleased) (defBody st_m_law_unreleased) (defScope st_m_law_unreleased) .none kV31 dc31 pm31 an31 cd31 ct31), sl31⟩) (c31 : PySem.W.codeIn K cd31 "_law_unreleased" = true) (k31 : PySem.W.keepIn K (.ref f31) = true)
    (a32 : PySem.W.nsIn K mainGlobals "_law_locks" = some (some (.ref f32)))
    (l32 : K.lookup f32 = some ⟨oc32, od32, .func (PySem.W.fnOf "_law_locks" "_law_locks" (defArgs st_m_law_locks) (defBody st_m_law_locks) (defScope st_m_law_locks) .none kV32 dc32 pm32 an32 cd32 ct32), sl32⟩) (c32 : PySem.W.codeIn K cd32 "_law_locks" = true) (k32 : PySem.W.keepIn K (.ref f32) = true)
    (a33 : PySem.W.nsIn K mainGlobals "_law_made" = some (some (.ref f33)))
    (l33 : K.lookup f33 = some ⟨oc33, od33, .func (PySem.W.fnOf "_law_made" "_law_made" (defArgs st_m_law_made) (defBody st_m_law_made) (defScope st_m_law_made) .none kV33 dc33 pm33 an33 cd33 ct33), sl33⟩) (c33 : PySem.W.codeIn K cd33 "_law_made" = true) (k33 : PySem.W.keepIn K (.ref f33) = true)
    (a34 : PySem.W.nsIn K mainGlobals "_law_inside" = some (some (.ref f34)))
    (l34 : K.lookup f34 = some ⟨oc34, od34, .func (PySem.W.fnOf "_law_inside" "_law_inside" (defArgs st_m_law_inside) (defBody st_m_law_inside) (defScope st_m_law_inside) .none kV34 dc34 pm34 an34 cd34 ct34), sl34⟩) (c34 : PySem.W.codeIn K cd34 "_law_inside" = true) (k34 : PySem.W.keepIn K (.ref f34) = true)
    (a35 : PySem.W.nsIn K mainGlobals "_law_truth" = some (some (.ref f35)))
    (l35 : K.lookup f35 = some ⟨oc35, od35, .func (PySem.W.fnOf "_law_truth" "_law_truth" (defArgs st_m_law_truth) (defBody st_m_law_truth) (defScope st_m_law_truth) .none kV35 dc35 pm35 an35 cd35 ct35), sl35⟩) (c35 : PySem.W.codeIn K cd35 "_law_truth" = true) (k35 : PySem.W.keepIn K (.ref f35) = true)
    (a36 : PySem.W.nsIn K mainGlobals "_law_fine" = some (some (.ref f36)))
    (l36 : K.lookup f36 = some ⟨oc36, od36, .func (PySem.W.fnOf "_law_fine" "_law_fine" (defArgs st_m_law_fine) (defBody st_m_law_fine) (defScope st_m_law_fine) .none kV36 dc36 pm36 an36 cd36 ct36), sl36⟩) (c36 : PySem.W.codeIn K cd36 "_law_fine" = true) (k36 : PySem.W.keepIn K (.ref f36) = true)
    (a37 : PySem.W.nsIn K mainGlobals "law" = some (some (.ref f37)))
    (l37 : K.lookup f37 = some ⟨oc37, od37, .func (PySem.W.fnOf "law" "law" (defArgs st_m_law) (defBody st_m_law) (defScope st_m_law) .none kV37 dc37 pm37 an37 cd37 ct37), sl37⟩) (c37 : PySem.W.codeIn K cd37 "law" = true) (k37 : PySem.W.keepIn K (.ref f37) = true)
    (ga1 : PySem.W.nsIn K mainGlobals "BadItem" = some (some (.ref e1)))
    (xl1 : K.lookup e1 = some (excClassObj nm1 q1 e1 N1 bs1 bm1 true sn1 sub1 ab1 col1 dd1 kq0_1 kq1_1 kq2_1 kq3_1 kq5_1 "ValueError.__new__"))
    (xr1 : PySem.HandSPX.refsVE bm1 = true)
    (xs1 : PySem.W.findIn K (.ref e1) "__setattr__" = some (some (.builtin "object.__setattr__")))
    (xe1 : PySem.W.subIn K (.ref e1) (.type "BaseException") = some true)
    (xt1 : PySem.W.typeIn K (.ref e1) = some (.type "type"))
    (xk1 : PySem.W.keepIn K (.ref e1) = true)
    (xi1 : PySem.W.findIn K (.ref e1) "__init__" = some (some (.ref fi1)))
    (xj1 : PySem.W.typeIn K (.ref fi1) = some (.type "function"))
    (xf1 : K.lookup fi1 = some ⟨io1, ia1, .func (PySem.W.ksFn "__init__" "BadItem.__init__" (defArgs in_BadItem) (defBody in_BadItem) (defScope in_BadItem) .none ik1 id1 ip1 ib1 (.ref cda1) it1 cc1), is1⟩)
    (xc1 : PySem.W.codeIn K (.ref cda1) "BadItem.__init__" = true)
    (xm1 : K.lookup cda1 = some ⟨ic1, icd1, .fields vs1, ics1⟩)
    (xn1 : vs1[2]? = some (.str file1 tf1))
    (xo1 : ((PySem.Challenge.pw_lockrules_k04_one_condition.main.file : Str) == file1) = true)
    (xp1 : K.lookup cc1 = some ⟨il1, ild1, .cell (some (.ref e1)), ils1⟩)
    (xq1 : PySem.W.ks_superIn K e1 e1 "__init__" = some (some (.builtin "ValueError.__init__")))
    (xu1 : PySem.W.mroIn K e1 (.ref e1) = some true)
    (xv1 : PySem.W.subIn K (.ref e1) (.type "ValueError") = some true)
    (xw1 : PySem.W.findIn K (.ref e1) "item" = some none)
    (xA1 : PySem.W.findIn K (.ref e1) "__getattribute__" = some (some (.builtin "BaseException.__getattribute__")))
    (xB1 : PySem.W.findIn K (.ref e1) "__getattr__" = some none)
    (xC1 : PySem.W.hasDictIn K e1 = true)
    (xD1 : PySem.W.findIn K (.ref e1) "__class__" = some (some (.builtin "object.__class__")))
    (xE1 : PySem.W.mroIn K e1 (.type "object") = some true)
    (y0 : PySem.W.nsIn K mainGlobals "super" = some none)
    (y1 : PySem.W.nsIn K cStatics "thirdparty.any" = some none)
    (y2 : PySem.W.specialIn K (.builtin "object.__class__") "__get__" = some (some (.builtin "getset_descriptor.__get__")))
    (y3 : PySem.W.takesIn K (.builtin "object.__class__") = some true)
    (cc_LARGEST : PySem.W.nsIn K mainGlobals "LARGEST" = some (some (.int 6 tk_LARGEST)))
    (z_tuple : PySem.W.nsIn K mainGlobals "tuple" = some none)
    (z_range : PySem.W.nsIn K mainGlobals "range" = some none)
    (z_len : PySem.W.nsIn K mainGlobals "len" = some none)
    (z_all : PySem.W.nsIn K mainGlobals "all" = some none)
    (z_any : PySem.W.nsIn K mainGlobals "any" = some none)
    (z_int : PySem.W.nsIn K mainGlobals "int" = some none)
    (z_isinstance : PySem.W.nsIn K mainGlobals "isinstance" = some none)
    (z_bool : PySem.W.nsIn K mainGlobals "bool" = some none)
    :
    ∃ fd : FuncData, (∀ (s : Shared) (v : Value), BindsTo s fd ⟨[v], []⟩ [("_law_script", v)]) ∧ ∀ base : Heap, K.In base → base.Ns mainGlobals mg → FnOk l.prog w K mg base (L2.CX l.prog w) 31 fa fd ["_law_script"] (spLaw K) := by
  rw [hprog]
  have e := hfa.symm.trans (PySem.W.mg_of X G a37)
  cases e
  let xt : XT := ⟨fun k => if k = 1 then e1 else if k = 118 then k118 else if k = 117 then k117 else if k = 116 then k116 else if k = 115 then k115 else if k = 114 then k114 else if k = 113 then k113 else if k = 112 then k112 else if k = 111 then k111 else if k = 110 then k110 else 0, fun k => if k = 1 then ["item"] else []⟩
  have ox1 : OexC K e1 := ⟨⟨nm1, q1, N1, bs1, bm1, sn1, sub1, ab1, col1, dd1, kq0_1, kq1_1, kq2_1, kq3_1, kq5_1, xl1, xr1⟩, xs1, xe1, xt1, xk1⟩
  have sc1 : SupC PySem.Challenge.pw_lockrules_k04_one_condition K mg e1 fi1 "__init__" "BadItem.__init__" (defArgs in_BadItem) (defBody in_BadItem) (defScope in_BadItem) cda1 cc1 := ⟨ox1, ⟨_, _, _, _, _, _, _, _, xf1⟩, xc1, ⟨_, _, _, _, _, _, xm1, xn1, xo1⟩, ⟨_, _, _, xp1⟩, xq1, xu1, xv1, PySem.W.mg_none_of X G y0, y1, by decide +kernel⟩
  have ex1 : ExcC K e1 := ⟨xA1, xB1, xe1, xC1, xD1, y2, y3, xE1⟩
  have kk1 : XK1 PySem.Challenge.pw_lockrules_k04_one_condition w K mg xt "BadItem" 1 "item" := ⟨⟨PySem.W.mg_of X G ga1, ox1, ⟨fi1, xi1, xj1, ini_BadItem sc1 xw1⟩, rfl⟩, ⟨xA1, xB1, xe1, xC1⟩, xw1, ex1⟩
  have B : Bt PySem.Challenge.pw_lockrules_k04_one_condition w K mg xt := ⟨PySem.W.mg_none_of X G z_tuple,
    PySem.W.mg_none_of X G z_range,
    PySem.W.mg_none_of X G z_len,
    PySem.W.mg_none_of X G z_all,
    PySem.W.mg_none_of X G z_any,
    PySem.W.mg_none_of X G z_int,
    PySem.W.mg_none_of X G z_isinstance,
    PySem.W.mg_none_of X G z_bool,
    ⟨_, PySem.W.mg_of X G cc_LARGEST, ⟨_, rfl⟩⟩,
    kk1,
    PySem.W.mg_of X G g_k110,
    ⟨p1_k110, p2_k110, p3_k110, p4_k110⟩,
    PySem.W.mg_of X G g_k111,
    ⟨p1_k111, p2_k111, p3_k111, p4_k111⟩,
    n_k111_first,
    n_k111_second,
    PySem.W.mg_of X G g_k112,
    ⟨p1_k112, p2_k112, p3_k112, p4_k112⟩,
    n_k112_first,
    n_k112_second,
    PySem.W.mg_of X G g_k113,
    ⟨p1_k113, p2_k113, p3_k113, p4_k113⟩,
    n_k113_inner,
    PySem.W.mg_of X G g_k114,
    ⟨p1_k114, p2_k114, p3_k114, p4_k114⟩,
    n_k114_needed,
    n_k114_least,
    PySem.W.mg_of X G g_k115,
    ⟨p1_k115, p2_k115, p3_k115, p4_k115⟩,
    n_k115_exact,
    PySem.W.mg_of X G g_k116,
    ⟨p1_k116, p2_k116, p3_k116, p4_k116⟩,
    n_k116_listed,
    PySem.W.mg_of X G g_k117,
    ⟨p1_k117, p2_k117, p3_k117, p4_k117⟩,
    n_k117_listed,
    PySem.W.mg_of X G g_k118,
    ⟨p1_k118, p2_k118, p3_k118, p4_k118⟩,
    n_k118_listed,
    ⟨mk1_k110, in_k110, mk2_k110⟩,
    PySem.W.mg_of X G ga1⟩
  have F0 := fun_mk (st := st_m_items_with) l0 c0 k0
  have b0 := F0.binds (ps := ["state", "signs"]) fun _ _ _ _ _ _ us hl => match us, hl with | [_, _], _ => rfl
  have C0 : Cal K mg "items_with" f0 _ ["state", "signs"] := ⟨PySem.W.mg_of X G a0, k0, b0⟩
  have F1 := fun_mk (st := st_m_held_items) l1 c1 k1
  have b1 := F1.binds (ps := ["state"]) fun _ _ _ _ _ _ us hl => match us, hl with | [_], _ => rfl
  have C1 : Cal K mg "held_items" f1 _ ["state"] := ⟨PySem.W.mg_of X G a1, k1, b1⟩
  have F2 := fun_mk (st := st_m_released_items) l2 c2 k2
  have b2 := F2.binds (ps := ["state"]) fun _ _ _ _ _ _ us hl => match us, hl with | [_], _ => rfl
  have C2 : Cal K mg "released_items" f2 _ ["state"] := ⟨PySem.W.mg_of X G a2, k2, b2⟩
  have F3 := fun_mk (st := st_m_taken_items) l3 c3 k3
  have b3 := F3.binds (ps := ["state"]) fun _ _ _ _ _ _ us hl => match us, hl with | [_], _ => rfl
  have C3 : Cal K mg "taken_items" f3 _ ["state"] := ⟨PySem.W.mg_of X G a3, k3, b3⟩
  have F4 := fun_mk (st := st_m_distinct_items) l4 c4 k4
  have b4 := F4.binds (ps := ["listed"]) fun _ _ _ _ _ _ us hl => match us, hl with | [_], _ => rfl
  have C4 : Cal K mg "distinct_items" f4 _ ["listed"] := ⟨PySem.W.mg_of X G a4, k4, b4⟩
  have F5 := fun_mk (st := st_m_Condition_call) l5 c5 k5
  have b5 := F5.binds (ps := ["self", "item", "state"]) fun _ _ _ _ _ _ us hl => match us, hl with | [_, _, _], _ => rfl
  have CO5 : StX.CallO K k110 f5 := ⟨a5, ai5, af5⟩
  have F6 := fun_mk (st := st_m_Both_init) l6 c6 k6
  have b6 := F6.binds (ps := ["self", "first", "second"]) fun _ _ _ _ _ _ us hl => match us, hl with | [_, _, _], _ => rfl
  have C6 : CalI K mg k111 f6 "Both" _ ["self", "first", "second"] [] := ⟨⟨mk1_k111, a6, ai6, mk2_k111⟩, PySem.W.mg_of X G g_k111, b6, ⟨[], .nil, b6⟩⟩
  have F7 := fun_mk (st := st_m_Both_call) l7 c7 k7
  have b7 := F7.binds (ps := ["self", "item", "state"]) fun _ _ _ _ _ _ us hl => match us, hl with | [_, _, _], _ => rfl
  have CO7 : StX.CallO K k111 f7 := ⟨a7, ai7, af7⟩
  have F8 := fun_mk (st := st_m_Either_init) l8 c8 k8
  have b8 := F8.binds (ps := ["self", "first", "second"]) fun _ _ _ _ _ _ us hl => match us, hl with | [_, _, _], _ => rfl
  have C8 : CalI K mg k112 f8 "Either" _ ["self", "first", "second"] [] := ⟨⟨mk1_k112, a8, ai8, mk2_k112⟩, PySem.W.mg_of X G g_k112, b8, ⟨[], .nil, b8⟩⟩
  have F9 := fun_mk (st := st_m_Either_call) l9 c9 k9
  have b9 := F9.binds (ps := ["self", "item", "state"]) fun _ _ _ _ _ _ us hl => match us, hl with | [_, _, _], _ => rfl
  have CO9 : StX.CallO K k112 f9 := ⟨a9, ai9, af9⟩
  have F10 := fun_mk (st := st_m_Opposite_init) l10 c10 k10
  have b10 := F10.binds (ps := ["self", "inner"]) fun _ _ _ _ _ _ us hl => match us, hl with | [_, _], _ => rfl
  have C10 : CalI K mg k113 f10 "Opposite" _ ["self", "inner"] [] := ⟨⟨mk1_k113, a10, ai10, mk2_k113⟩, PySem.W.mg_of X G g_k113, b10, ⟨[], .nil, b10⟩⟩
  have F11 := fun_mk (st := st_m_Opposite_call) l11 c11 k11
  have b11 := F11.binds (ps := ["self", "item", "state"]) fun _ _ _ _ _ _ us hl => match us, hl with | [_, _, _], _ => rfl
  have CO11 : StX.CallO K k113 f11 := ⟨a11, ai11, af11⟩
  have F12 := fun_mk (st := st_m_Holds_init) l12 c12 k12
  have C12 : CalAD K mg k114 f12 "Holds" (PySem.W.fnOf "__init__" "Holds.__init__" (defArgs st_m_Holds_init) (defBody st_m_Holds_init) (defScope st_m_Holds_init) .none (.ref kD12) dc12 pm12 an12 cd12 ct12) "self" "least" "needed" := ⟨⟨⟨mk1_k114, a12, ai12, mk2_k114⟩, PySem.W.mg_of X G g_k114⟩, bndA_d (D := kD12) (d := .none) rfl kd12 (fun a => ⟨_, _, _, _, _, _, rfl, rfl, rfl⟩) (fun a r rs => ⟨_, _, _, _, _, _, rfl, rfl, rfl⟩), bndA_1 (fun a x => rfl) (fun a x r rs => rfl)⟩
  have F13 := fun_mk (st := st_m_Holds_call) l13 c13 k13
  have b13 := F13.binds (ps := ["self", "item", "state"]) fun _ _ _ _ _ _ us hl => match us, hl with | [_, _, _], _ => rfl
  have CO13 : StX.CallO K k114 f13 := ⟨a13, ai13, af13⟩
  have F14 := fun_mk (st := st_m_HoldsOnly_init) l14 c14 k14
  have C14 : CalAS K mg k115 f14 "HoldsOnly" (PySem.W.fnOf "__init__" "HoldsOnly.__init__" (defArgs st_m_HoldsOnly_init) (defBody st_m_HoldsOnly_init) (defScope st_m_HoldsOnly_init) .none kV14 dc14 pm14 an14 cd14 ct14) "self" "exact" := ⟨⟨⟨mk1_k115, a14, ai14, mk2_k115⟩, PySem.W.mg_of X G g_k115⟩, bndA_0 (fun a => rfl) (fun a r rs => rfl)⟩
  have F15 := fun_mk (st := st_m_HoldsOnly_call) l15 c15 k15
  have b15 := F15.binds (ps := ["self", "item", "state"]) fun _ _ _ _ _ _ us hl => match us, hl with | [_, _, _], _ => rfl
  have CO15 : StX.CallO K k115 f15 := ⟨a15, ai15, af15⟩
  have F16 := fun_mk (st := st_m_Untaken_init) l16 c16 k16
  have C16 : CalAS K mg k116 f16 "Untaken" (PySem.W.fnOf "__init__" "Untaken.__init__" (defArgs st_m_Untaken_init) (defBody st_m_Untaken_init) (defScope st_m_Untaken_init) .none kV16 dc16 pm16 an16 cd16 ct16) "self" "listed" := ⟨⟨⟨mk1_k116, a16, ai16, mk2_k116⟩, PySem.W.mg_of X G g_k116⟩, bndA_0 (fun a => rfl) (fun a r rs => rfl)⟩
  have F17 := fun_mk (st := st_m_Untaken_call) l17 c17 k17
  have b17 := F17.binds (ps := ["self", "item", "state"]) fun _ _ _ _ _ _ us hl => match us, hl with | [_, _, _], _ => rfl
  have CO17 : StX.CallO K k116 f17 := ⟨a17, ai17, af17⟩
  have F18 := fun_mk (st := st_m_Unreleased_init) l18 c18 k18
  have C18 : CalAS K mg k117 f18 "Unreleased" (PySem.W.fnOf "__init__" "Unreleased.__init__" (defArgs st_m_Unreleased_init) (defBody st_m_Unreleased_init) (defScope st_m_Unreleased_init) .none kV18 dc18 pm18 an18 cd18 ct18) "self" "listed" := ⟨⟨⟨mk1_k117, a18, ai18, mk2_k117⟩, PySem.W.mg_of X G g_k117⟩, bndA_0 (fun a => rfl) (fun a r rs => rfl)⟩
  have F19 := fun_mk (st := st_m_Unreleased_call) l19 c19 k19
  have b19 := F19.binds (ps := ["self", "item", "state"]) fun _ _ _ _ _ _ us hl => match us, hl with | [_, _, _], _ => rfl
  have CO19 : StX.CallO K k117 f19 := ⟨a19, ai19, af19⟩
  have F20 := fun_mk (st := st_m_Locks_init) l20 c20 k20
  have C20 : CalAS K mg k118 f20 "Locks" (PySem.W.fnOf "__init__" "Locks.__init__" (defArgs st_m_Locks_init) (defBody st_m_Locks_init) (defScope st_m_Locks_init) .none kV20 dc20 pm20 an20 cd20 ct20) "self" "listed" := ⟨⟨⟨mk1_k118, a20, ai20, mk2_k118⟩, PySem.W.mg_of X G g_k118⟩, bndA_0 (fun a => rfl) (fun a r rs => rfl)⟩
  have F21 := fun_mk (st := st_m_Locks_call) l21 c21 k21
  have b21 := F21.binds (ps := ["self", "item", "state"]) fun _ _ _ _ _ _ us hl => match us, hl with | [_, _, _], _ => rfl
  have CO21 : StX.CallO K k118 f21 := ⟨a21, ai21, af21⟩
  have F22 := fun_mk (st := st_m_law_cell) l22 c22 k22
  have b22 := F22.binds (ps := ["_law_script", "_law_k"]) fun _ _ _ _ _ _ us hl => match us, hl with | [_, _], _ => rfl
  have C22 : Cal K mg "_law_cell" f22 _ ["_law_script", "_law_k"] := ⟨PySem.W.mg_of X G a22, k22, b22⟩
  have F23 := fun_mk (st := st_m_law_numbers) l23 c23 k23
  have b23 := F23.binds (ps := ["_law_cell_here", "_law_many", "_law_limit"]) fun _ _ _ _ _ _ us hl => match us, hl with | [_, _, _], _ => rfl
  have C23 : Cal K mg "_law_numbers" f23 _ ["_law_cell_here", "_law_many", "_law_limit"] := ⟨PySem.W.mg_of X G a23, k23, b23⟩
  have F24 := fun_mk (st := st_m_law_meet) l24 c24 k24
  have b24 := F24.binds (ps := ["_law_row", "_law_other"]) fun _ _ _ _ _ _ us hl => match us, hl with | [_, _], _ => rfl
  have C24 : Cal K mg "_law_meet" f24 _ ["_law_row", "_law_other"] := ⟨PySem.W.mg_of X G a24, k24, b24⟩
  have F25 := fun_mk (st := st_m_law_with) l25 c25 k25
  have b25 := F25.binds (ps := ["_law_state_here", "_law_signs"]) fun _ _ _ _ _ _ us hl => match us, hl with | [_, _], _ => rfl
  have C25 : Cal K mg "_law_with" f25 _ ["_law_state_here", "_law_signs"] := ⟨PySem.W.mg_of X G a25, k25, b25⟩
  have F26 := fun_mk (st := st_m_law_state) l26 c26 k26
  have b26 := F26.binds (ps := ["_law_cell_here", "_law_size"]) fun _ _ _ _ _ _ us hl => match us, hl with | [_, _], _ => rfl
  have C26 : Cal K mg "_law_state" f26 _ ["_law_cell_here", "_law_size"] := ⟨PySem.W.mg_of X G a26, k26, b26⟩
  have F27 := fun_mk (st := st_m_law_holds) l27 c27 k27
  have b27 := F27.binds (ps := ["_law_row", "_law_many"]) fun _ _ _ _ _ _ us hl => match us, hl with | [_, _], _ => rfl
  have C27 : Cal K mg "_law_holds" f27 _ ["_law_row", "_law_many"] := ⟨PySem.W.mg_of X G a27, k27, b27⟩
  have F28 := fun_mk (st := st_m_law_plain) l28 c28 k28
  have b28 := F28.binds (ps := ["_law_row"]) fun _ _ _ _ _ _ us hl => match us, hl with | [_], _ => rfl
  have C28 : Cal K mg "_law_plain" f28 _ ["_law_row"] := ⟨PySem.W.mg_of X G a28, k28, b28⟩
  have F29 := fun_mk (st := st_m_law_only) l29 c29 k29
  have b29 := F29.binds (ps := ["_law_row"]) fun _ _ _ _ _ _ us hl => match us, hl with | [_], _ => rfl
  have C29 : Cal K mg "_law_only" f29 _ ["_law_row"] := ⟨PySem.W.mg_of X G a29, k29, b29⟩
  have F30 := fun_mk (st := st_m_law_untaken) l30 c30 k30
  have b30 := F30.binds (ps := ["_law_row"]) fun _ _ _ _ _ _ us hl => match us, hl with | [_], _ => rfl
  have C30 : Cal K mg "_law_untaken" f30 _ ["_law_row"] := ⟨PySem.W.mg_of X G a30, k30, b30⟩
  have F31 := fun_mk (st := st_m_law_unreleased) l31 c31 k31
  have b31 := F31.binds (ps := ["_law_row"]) fun _ _ _ _ _ _ us hl => match us, hl with | [_], _ => rfl
  have C31 : Cal K mg "_law_unreleased" f31 _ ["_law_row"] := ⟨PySem.W.mg_of X G a31, k31, b31⟩
  have F32 := fun_mk (st := st_m_law_locks) l32 c32 k32
  have b32 := F32.binds (ps := ["_law_row"]) fun _ _ _ _ _ _ us hl => match us, hl with | [_], _ => rfl
  have C32 : Cal K mg "_law_locks" f32 _ ["_law_row"] := ⟨PySem.W.mg_of X G a32, k32, b32⟩
  have F33 := fun_mk (st := st_m_law_made) l33 c33 k33
  have b33 := F33.binds (ps := ["_law_kind", "_law_row", "_law_many"]) fun _ _ _ _ _ _ us hl => match us, hl with | [_, _, _], _ => rfl
  have C33 : Cal K mg "_law_made" f33 _ ["_law_kind", "_law_row", "_law_many"] := ⟨PySem.W.mg_of X G a33, k33, b33⟩
  have F34 := fun_mk (st := st_m_law_inside) l34 c34 k34
  have b34 := F34.binds (ps := ["_law_row", "_law_other"]) fun _ _ _ _ _ _ us hl => match us, hl with | [_, _], _ => rfl
  have C34 : Cal K mg "_law_inside" f34 _ ["_law_row", "_law_other"] := ⟨PySem.W.mg_of X G a34, k34, b34⟩
  have F35 := fun_mk (st := st_m_law_truth) l35 c35 k35
  have b35 := F35.binds (ps := ["_law_kind", "_law_row", "_law_many", "_law_item", "_law_state_here"]) fun _ _ _ _ _ _ us hl => match us, hl with | [_, _, _, _, _], _ => rfl
  have C35 : Cal K mg "_law_truth" f35 _ ["_law_kind", "_law_row", "_law_many", "_law_item", "_law_state_here"] := ⟨PySem.W.mg_of X G a35, k35, b35⟩
  have F36 := fun_mk (st := st_m_law_fine) l36 c36 k36
  have b36 := F36.binds (ps := ["_law_condition", "_law_kind", "_law_row", "_law_many", "_law_item", "_law_state_here"]) fun _ _ _ _ _ _ us hl => match us, hl with | [_, _, _, _, _, _], _ => rfl
  have C36 : Cal K mg "_law_fine" f36 _ ["_law_condition", "_law_kind", "_law_row", "_law_many", "_law_item", "_law_state_here"] := ⟨PySem.W.mg_of X G a36, k36, b36⟩
  have F37 := fun_mk (st := st_m_law) l37 c37 k37
  have b37 := F37.binds (ps := ["_law_script"]) fun _ _ _ _ _ _ us hl => match us, hl with | [_], _ => rfl
  refine ⟨PySem.W.fnOf "law" "law" (defArgs st_m_law) (defBody st_m_law) (defScope st_m_law) .none kV37 dc37 pm37 an37 cd37 ct37, fun s v => .of_eq rfl, fun base _ _ => ?_⟩
  have G0 : FnOk PySem.Challenge.pw_lockrules_k04_one_condition w K mg base (L2.CX PySem.Challenge.pw_lockrules_k04_one_condition w) 1 f0 _ ["state", "signs"] (spR xt (Pt.cons .sh rTx inferInstance (Pt.cons .sh rTx inferInstance Pt.nil)) (fun (a : ((List Nat) × (List Nat) × Unit)) => m_items_with a.1 a.2.1) (fun b => sF (rTup rInt) b)) := ok_m_items_with B F0 
  have G1 : FnOk PySem.Challenge.pw_lockrules_k04_one_condition w K mg base (L2.CX PySem.Challenge.pw_lockrules_k04_one_condition w) 2 f1 _ ["state"] (spR xt (Pt.cons .sh rTx inferInstance Pt.nil) (fun (a : ((List Nat) × Unit)) => m_held_items a.1) (fun b => sF (rTup rInt) b)) := ok_m_held_items B F1 C0 G0
  have G2 : FnOk PySem.Challenge.pw_lockrules_k04_one_condition w K mg base (L2.CX PySem.Challenge.pw_lockrules_k04_one_condition w) 2 f2 _ ["state"] (spR xt (Pt.cons .sh rTx inferInstance Pt.nil) (fun (a : ((List Nat) × Unit)) => m_released_items a.1) (fun b => sF (rTup rInt) b)) := ok_m_released_items B F2 C0 G0
  have G3 : FnOk PySem.Challenge.pw_lockrules_k04_one_condition w K mg base (L2.CX PySem.Challenge.pw_lockrules_k04_one_condition w) 2 f3 _ ["state"] (spR xt (Pt.cons .sh rTx inferInstance Pt.nil) (fun (a : ((List Nat) × Unit)) => m_taken_items a.1) (fun b => sF (rTup rInt) b)) := ok_m_taken_items B F3 C0 G0
  have G4 : FnOk PySem.Challenge.pw_lockrules_k04_one_condition w K mg base (L2.CX PySem.Challenge.pw_lockrules_k04_one_condition w) 2 f4 _ ["listed"] (spR xt (Pt.cons .sh (rTup rInt) inferInstance Pt.nil) (fun (a : ((List Int) × Unit)) => m_distinct_items a.1) (fun b => sL rInt b)) := ok_m_distinct_items B F4 
  have G5 : FnOk PySem.Challenge.pw_lockrules_k04_one_condition w K mg base (L2.CX PySem.Challenge.pw_lockrules_k04_one_condition w) 1 f5 _ ["self", "item", "state"] (spR xt (Pt.cons .sh (rR (xt.cls 110) Rc.nil) inferInstance (Pt.cons .sh rInt inferInstance (Pt.cons .sh rTx inferInstance Pt.nil))) (fun (a : (Unit × Int × (List Nat) × Unit)) => m_Condition_call a.1 a.2.1 a.2.2.1) (fun b => sF rBl b)) := ok_m_Condition_call B F5 
  have G6 : FnOk PySem.Challenge.pw_lockrules_k04_one_condition w K mg base (L2.CX PySem.Challenge.pw_lockrules_k04_one_condition w) 1 f6 _ ["self", "first", "second"] (spM xt (m0 (xt.cls 111)) (Pt.cons .sh (rCd xt.cls) inferInstance (Pt.cons .sh (rCd xt.cls) inferInstance Pt.nil)) (fun (g : Unit) (a : (Cd × Cd × Unit)) => m_Both_init a.1 a.2.1) (fun o d => sO (mR (xt.cls 111) ((Rc.nil.add "first" (rCd xt.cls)).add "second" (rCd xt.cls)) o d)) (fun _ (_ : Unit) => .no)) := ok_m_Both_init B F6 
  have G7 : ∀ (cc : Cd → Int × List Nat × Unit → R Er Bool) (q : Nat), (∀ c, CdPr PySem.Challenge.pw_lockrules_k04_one_condition w K mg base xt (5 + q) cc c) → FnOk PySem.Challenge.pw_lockrules_k04_one_condition w K mg base (L2.CX PySem.Challenge.pw_lockrules_k04_one_condition w) (5 + q + 1) f7 _ ["self", "item", "state"] (spR xt (Pt.cons .sh (rR (xt.cls 111) ((Rc.nil.add "first" (rCd xt.cls)).add "second" (rCd xt.cls))) inferInstance (Pt.cons .sh rInt inferInstance (Pt.cons .sh rTx inferInstance Pt.nil))) (fun (a : (((Unit × Cd) × Cd) × Int × (List Nat) × Unit)) => m_Both_call cc a.1 a.2.1 a.2.2.1) (fun b => sF rBl b)) := fun cc q HC => ok_m_Both_call B F7 cc q HC 
  have G8 : FnOk PySem.Challenge.pw_lockrules_k04_one_condition w K mg base (L2.CX PySem.Challenge.pw_lockrules_k04_one_condition w) 1 f8 _ ["self", "first", "second"] (spM xt (m0 (xt.cls 112)) (Pt.cons .sh (rCd xt.cls) inferInstance (Pt.cons .sh (rCd xt.cls) inferInstance Pt.nil)) (fun (g : Unit) (a : (Cd × Cd × Unit)) => m_Either_init a.1 a.2.1) (fun o d => sO (mR (xt.cls 112) ((Rc.nil.add "first" (rCd xt.cls)).add "second" (rCd xt.cls)) o d)) (fun _ (_ : Unit) => .no)) := ok_m_Either_init B F8 
  have G9 : ∀ (cc : Cd → Int × List Nat × Unit → R Er Bool) (q : Nat), (∀ c, CdPr PySem.Challenge.pw_lockrules_k04_one_condition w K mg base xt (5 + q) cc c) → FnOk PySem.Challenge.pw_lockrules_k04_one_condition w K mg base (L2.CX PySem.Challenge.pw_lockrules_k04_one_condition w) (5 + q + 1) f9 _ ["self", "item", "state"] (spR xt (Pt.cons .sh (rR (xt.cls 112) ((Rc.nil.add "first" (rCd xt.cls)).add "second" (rCd xt.cls))) inferInstance (Pt.cons .sh rInt inferInstance (Pt.cons .sh rTx inferInstance Pt.nil))) (fun (a : (((Unit × Cd) × Cd) × Int × (List Nat) × Unit)) => m_Either_call cc a.1 a.2.1 a.2.2.1) (fun b => sF rBl b)) := fun cc q HC => ok_m_Either_call B F9 cc q HC 
  have G10 : FnOk PySem.Challenge.pw_lockrules_k04_one_condition w K mg base (L2.CX PySem.Challenge.pw_lockrules_k04_one_condition w) 1 f10 _ ["self", "inner"] (spM xt (m0 (xt.cls 113)) (Pt.cons .sh (rCd xt.cls) inferInstance Pt.nil) (fun (g : Unit) (a : (Cd × Unit)) => m_Opposite_init a.1) (fun o d => sO (mR (xt.cls 113) (Rc.nil.add "inner" (rCd xt.cls)) o d)) (fun _ (_ : Unit) => .no)) := ok_m_Opposite_init B F10 
  have G11 : ∀ (cc : Cd → Int × List Nat × Unit → R Er Bool) (q : Nat), (∀ c, CdPr PySem.Challenge.pw_lockrules_k04_one_condition w K mg base xt (5 + q) cc c) → FnOk PySem.Challenge.pw_lockrules_k04_one_condition w K mg base (L2.CX PySem.Challenge.pw_lockrules_k04_one_condition w) (5 + q + 1) f11 _ ["self", "item", "state"] (spR xt (Pt.cons .sh (rR (xt.cls 113) (Rc.nil.add "inner" (rCd xt.cls))) inferInstance (Pt.cons .sh rInt inferInstance (Pt.cons .sh rTx inferInstance Pt.nil))) (fun (a : ((Unit × Cd) × Int × (List Nat) × Unit)) => m_Opposite_call cc a.1 a.2.1 a.2.2.1) (fun b => sF rBl b)) := fun cc q HC => ok_m_Opposite_call B F11 cc q HC 
  have G12 : ∀ ks dvs, BndA K _ "self" ["least"] "needed" ks dvs → FnA PySem.Challenge.pw_lockrules_k04_one_condition w K mg base (L2.CX PySem.Challenge.pw_lockrules_k04_one_condition w) 3 f12 ks (spA (spM xt (m0 (xt.cls 114)) (Pt.cons .sh (rOpt rInt) inferInstance (Pt.cons .sh (rTup rInt) inferInstance Pt.nil)) (fun (g : Unit) (a : ((Option Int) × (List Int) × Unit)) => m_Holds_init a.1 a.2.1) (fun o d => sO (mR (xt.cls 114) ((Rc.nil.add "needed" (rLst rInt)).add "least" rInt) o d)) (fun _ (_ : Unit) => .no)) dvs) := fun ks dvs hb => ok_m_Holds_init B F12 C4 G4 hb
  have G13 : FnOk PySem.Challenge.pw_lockrules_k04_one_condition w K mg base (L2.CX PySem.Challenge.pw_lockrules_k04_one_condition w) 3 f13 _ ["self", "item", "state"] (spR xt (Pt.cons .sh (rR (xt.cls 114) ((Rc.nil.add "needed" (rLst rInt)).add "least" rInt)) inferInstance (Pt.cons .sh rInt inferInstance (Pt.cons .sh rTx inferInstance Pt.nil))) (fun (a : (((Unit × (List Int)) × Int) × Int × (List Nat) × Unit)) => m_Holds_call a.1 a.2.1 a.2.2.1) (fun b => sF rBl b)) := ok_m_Holds_call B F13 C1 G1
  have G14 : ∀ ks dvs, BndA K _ "self" [] "exact" ks dvs → FnA PySem.Challenge.pw_lockrules_k04_one_condition w K mg base (L2.CX PySem.Challenge.pw_lockrules_k04_one_condition w) 3 f14 ks (spA (spM xt (m0 (xt.cls 115)) (Pt.cons .sh (rTup rInt) inferInstance Pt.nil) (fun (g : Unit) (a : ((List Int) × Unit)) => m_HoldsOnly_init a.1) (fun o d => sO (mR (xt.cls 115) (Rc.nil.add "exact" (rLst rInt)) o d)) (fun _ (_ : Unit) => .no)) dvs) := fun ks dvs hb => ok_m_HoldsOnly_init B F14 C4 G4 hb
  have G15 : FnOk PySem.Challenge.pw_lockrules_k04_one_condition w K mg base (L2.CX PySem.Challenge.pw_lockrules_k04_one_condition w) 3 f15 _ ["self", "item", "state"] (spR xt (Pt.cons .sh (rR (xt.cls 115) (Rc.nil.add "exact" (rLst rInt))) inferInstance (Pt.cons .sh rInt inferInstance (Pt.cons .sh rTx inferInstance Pt.nil))) (fun (a : ((Unit × (List Int)) × Int × (List Nat) × Unit)) => m_HoldsOnly_call a.1 a.2.1 a.2.2.1) (fun b => sF rBl b)) := ok_m_HoldsOnly_call B F15 C1 G1
  have G16 : ∀ ks dvs, BndA K _ "self" [] "listed" ks dvs → FnA PySem.Challenge.pw_lockrules_k04_one_condition w K mg base (L2.CX PySem.Challenge.pw_lockrules_k04_one_condition w) 3 f16 ks (spA (spM xt (m0 (xt.cls 116)) (Pt.cons .sh (rTup rInt) inferInstance Pt.nil) (fun (g : Unit) (a : ((List Int) × Unit)) => m_Untaken_init a.1) (fun o d => sO (mR (xt.cls 116) (Rc.nil.add "listed" (rLst rInt)) o d)) (fun _ (_ : Unit) => .no)) dvs) := fun ks dvs hb => ok_m_Untaken_init B F16 C4 G4 hb
  have G17 : FnOk PySem.Challenge.pw_lockrules_k04_one_condition w K mg base (L2.CX PySem.Challenge.pw_lockrules_k04_one_condition w) 3 f17 _ ["self", "item", "state"] (spR xt (Pt.cons .sh (rR (xt.cls 116) (Rc.nil.add "listed" (rLst rInt))) inferInstance (Pt.cons .sh rInt inferInstance (Pt.cons .sh rTx inferInstance Pt.nil))) (fun (a : ((Unit × (List Int)) × Int × (List Nat) × Unit)) => m_Untaken_call a.1 a.2.1 a.2.2.1) (fun b => sF rBl b)) := ok_m_Untaken_call B F17 C3 G3
  have G18 : ∀ ks dvs, BndA K _ "self" [] "listed" ks dvs → FnA PySem.Challenge.pw_lockrules_k04_one_condition w K mg base (L2.CX PySem.Challenge.pw_lockrules_k04_one_condition w) 3 f18 ks (spA (spM xt (m0 (xt.cls 117)) (Pt.cons .sh (rTup rInt) inferInstance Pt.nil) (fun (g : Unit) (a : ((List Int) × Unit)) => m_Unreleased_init a.1) (fun o d => sO (mR (xt.cls 117) (Rc.nil.add "listed" (rLst rInt)) o d)) (fun _ (_ : Unit) => .no)) dvs) := fun ks dvs hb => ok_m_Unreleased_init B F18 C4 G4 hb
  have G19 : FnOk PySem.Challenge.pw_lockrules_k04_one_condition w K mg base (L2.CX PySem.Challenge.pw_lockrules_k04_one_condition w) 3 f19 _ ["self", "item", "state"] (spR xt (Pt.cons .sh (rR (xt.cls 117) (Rc.nil.add "listed" (rLst rInt))) inferInstance (Pt.cons .sh rInt inferInstance (Pt.cons .sh rTx inferInstance Pt.nil))) (fun (a : ((Unit × (List Int)) × Int × (List Nat) × Unit)) => m_Unreleased_call a.1 a.2.1 a.2.2.1) (fun b => sF rBl b)) := ok_m_Unreleased_call B F19 C2 G2
  have G20 : ∀ ks dvs, BndA K _ "self" [] "listed" ks dvs → FnA PySem.Challenge.pw_lockrules_k04_one_condition w K mg base (L2.CX PySem.Challenge.pw_lockrules_k04_one_condition w) 3 f20 ks (spA (spM xt (m0 (xt.cls 118)) (Pt.cons .sh (rTup rInt) inferInstance Pt.nil) (fun (g : Unit) (a : ((List Int) × Unit)) => m_Locks_init a.1) (fun o d => sO (mR (xt.cls 118) (Rc.nil.add "listed" (rLst rInt)) o d)) (fun _ (_ : Unit) => .no)) dvs) := fun ks dvs hb => ok_m_Locks_init B F20 C4 G4 hb
  have G21 : FnOk PySem.Challenge.pw_lockrules_k04_one_condition w K mg base (L2.CX PySem.Challenge.pw_lockrules_k04_one_condition w) 1 f21 _ ["self", "item", "state"] (spR xt (Pt.cons .sh (rR (xt.cls 118) (Rc.nil.add "listed" (rLst rInt))) inferInstance (Pt.cons .sh rInt inferInstance (Pt.cons .sh rTx inferInstance Pt.nil))) (fun (a : ((Unit × (List Int)) × Int × (List Nat) × Unit)) => m_Locks_call a.1 a.2.1 a.2.2.1) (fun b => sF rBl b)) := ok_m_Locks_call B F21 
  have HCd : ∀ (q : Nat) (c : Cd), CdPr PySem.Challenge.pw_lockrules_k04_one_condition w K mg base xt (5 + q) (m_cond q) c := by
    intro q
    induction q with
    | zero =>
      intro c
      cases c with
      | any => exact ⟨_, _, _, CO5, b5, (by have e : (fun a : Unit × Int × List Nat × Unit => m_cond 0 (Cd.any) a.2) = fun _ => .no := rfl; rw [e]; exact fnok_no rfl)⟩
      | both x y => exact ⟨_, _, _, CO7, b7, (by have e : (fun a : Unit × Int × List Nat × Unit => m_cond 0 (Cd.both x y) a.2) = fun _ => .no := rfl; rw [e]; exact fnok_no rfl)⟩
      | either x y => exact ⟨_, _, _, CO9, b9, (by have e : (fun a : Unit × Int × List Nat × Unit => m_cond 0 (Cd.either x y) a.2) = fun _ => .no := rfl; rw [e]; exact fnok_no rfl)⟩
      | opp x => exact ⟨_, _, _, CO11, b11, (by have e : (fun a : Unit × Int × List Nat × Unit => m_cond 0 (Cd.opp x) a.2) = fun _ => .no := rfl; rw [e]; exact fnok_no rfl)⟩
      | holds l n => exact ⟨_, _, _, CO13, b13, (by have e : (fun a : Unit × Int × List Nat × Unit => m_cond 0 (Cd.holds l n) a.2) = fun _ => .no := rfl; rw [e]; exact fnok_no rfl)⟩
      | only l => exact ⟨_, _, _, CO15, b15, (by have e : (fun a : Unit × Int × List Nat × Unit => m_cond 0 (Cd.only l) a.2) = fun _ => .no := rfl; rw [e]; exact fnok_no rfl)⟩
      | unt l => exact ⟨_, _, _, CO17, b17, (by have e : (fun a : Unit × Int × List Nat × Unit => m_cond 0 (Cd.unt l) a.2) = fun _ => .no := rfl; rw [e]; exact fnok_no rfl)⟩
      | unr l => exact ⟨_, _, _, CO19, b19, (by have e : (fun a : Unit × Int × List Nat × Unit => m_cond 0 (Cd.unr l) a.2) = fun _ => .no := rfl; rw [e]; exact fnok_no rfl)⟩
      | locks l => exact ⟨_, _, _, CO21, b21, (by have e : (fun a : Unit × Int × List Nat × Unit => m_cond 0 (Cd.locks l) a.2) = fun _ => .no := rfl; rw [e]; exact fnok_no rfl)⟩
    | succ q ih =>
      intro c
      cases c with
      | any => exact cdPr_of () (fun F v h => h) CO5 b5 (G5.mono (by omega)) (fun _ => rfl)
      | both x y => exact cdPr_of (((), x), y) (fun F v h => r2_of h) CO7 b7 (G7 (m_cond q) q ih) (fun _ => rfl)
      | either x y => exact cdPr_of (((), x), y) (fun F v h => r2_of h) CO9 b9 (G9 (m_cond q) q ih) (fun _ => rfl)
      | opp x => exact cdPr_of ((), x) (fun F v h => cd_opp' h) CO11 b11 (G11 (m_cond q) q ih) (fun _ => rfl)
      | holds l n => exact cdPr_of (((), l), n) (fun F v h => h) CO13 b13 (G13.mono (by omega)) (fun _ => rfl)
      | only l => exact cdPr_of ((), l) (fun F v h => h) CO15 b15 (G15.mono (by omega)) (fun _ => rfl)
      | unt l => exact cdPr_of ((), l) (fun F v h => h) CO17 b17 (G17.mono (by omega)) (fun _ => rfl)
      | unr l => exact cdPr_of ((), l) (fun F v h => h) CO19 b19 (G19.mono (by omega)) (fun _ => rfl)
      | locks l => exact cdPr_of ((), l) (fun F v h => h) CO21 b21 (G21.mono (by omega)) (fun _ => rfl)
  have G22 : FnOk PySem.Challenge.pw_lockrules_k04_one_condition w K mg base (L2.CX PySem.Challenge.pw_lockrules_k04_one_condition w) 1 f22 _ ["_law_script", "_law_k"] (spR xt (Pt.cons .bo (rScr K) inferInstance (Pt.cons .sh rInt inferInstance Pt.nil)) (fun (a : ((List Int) × Int × Unit)) => m_law_cell a.1 a.2.1) (fun b => sF rInt b)) := ok_m_law_cell B F22 
  have G23 : FnOk PySem.Challenge.pw_lockrules_k04_one_condition w K mg base (L2.CX PySem.Challenge.pw_lockrules_k04_one_condition w) 1 f23 _ ["_law_cell_here", "_law_many", "_law_limit"] (spR xt (Pt.cons .sh rInt inferInstance (Pt.cons .sh rInt inferInstance (Pt.cons .sh rInt inferInstance Pt.nil))) (fun (a : (Int × Int × Int × Unit)) => m_law_numbers a.1 a.2.1 a.2.2.1) (fun b => sL rInt b)) := ok_m_law_numbers B F23 
  have G24 : FnOk PySem.Challenge.pw_lockrules_k04_one_condition w K mg base (L2.CX PySem.Challenge.pw_lockrules_k04_one_condition w) 1 f24 _ ["_law_row", "_law_other"] (spR xt (Pt.cons .sh (rLst rInt) inferInstance (Pt.cons .sh (rLst rInt) inferInstance Pt.nil)) (fun (a : ((List Int) × (List Int) × Unit)) => m_law_meet a.1 a.2.1) (fun b => sF rBl b)) := ok_m_law_meet B F24 
  have G25 : FnOk PySem.Challenge.pw_lockrules_k04_one_condition w K mg base (L2.CX PySem.Challenge.pw_lockrules_k04_one_condition w) 1 f25 _ ["_law_state_here", "_law_signs"] (spR xt (Pt.cons .sh rTx inferInstance (Pt.cons .sh rTx inferInstance Pt.nil)) (fun (a : ((List Nat) × (List Nat) × Unit)) => m_law_with a.1 a.2.1) (fun b => sF (rLst rInt) b)) := ok_m_law_with B F25 
  have G26 : FnOk PySem.Challenge.pw_lockrules_k04_one_condition w K mg base (L2.CX PySem.Challenge.pw_lockrules_k04_one_condition w) 2 f26 _ ["_law_cell_here", "_law_size"] (spR xt (Pt.cons .sh rInt inferInstance (Pt.cons .sh rInt inferInstance Pt.nil)) (fun (a : (Int × Int × Unit)) => m_law_state a.1 a.2.1) (fun b => sF rTx b)) := ok_m_law_state B F26 C23 G23
  have G27 : FnOk PySem.Challenge.pw_lockrules_k04_one_condition w K mg base (L2.CX PySem.Challenge.pw_lockrules_k04_one_condition w) 5 f27 _ ["_law_row", "_law_many"] (spR xt (Pt.cons .sh (rLst rInt) inferInstance (Pt.cons .sh rInt inferInstance Pt.nil)) (fun (a : ((List Int) × Int × Unit)) => m_law_holds a.1 a.2.1) (fun b => sF (rCd xt.cls) b)) := ok_m_law_holds B F27 C12 G12
  have G28 : FnOk PySem.Challenge.pw_lockrules_k04_one_condition w K mg base (L2.CX PySem.Challenge.pw_lockrules_k04_one_condition w) 5 f28 _ ["_law_row"] (spR xt (Pt.cons .sh (rLst rInt) inferInstance Pt.nil) (fun (a : ((List Int) × Unit)) => m_law_plain a.1) (fun b => sF (rCd xt.cls) b)) := ok_m_law_plain B F28 C12 G12
  have G29 : FnOk PySem.Challenge.pw_lockrules_k04_one_condition w K mg base (L2.CX PySem.Challenge.pw_lockrules_k04_one_condition w) 5 f29 _ ["_law_row"] (spR xt (Pt.cons .sh (rLst rInt) inferInstance Pt.nil) (fun (a : ((List Int) × Unit)) => m_law_only a.1) (fun b => sF (rCd xt.cls) b)) := ok_m_law_only B F29 C14 G14
  have G30 : FnOk PySem.Challenge.pw_lockrules_k04_one_condition w K mg base (L2.CX PySem.Challenge.pw_lockrules_k04_one_condition w) 5 f30 _ ["_law_row"] (spR xt (Pt.cons .sh (rLst rInt) inferInstance Pt.nil) (fun (a : ((List Int) × Unit)) => m_law_untaken a.1) (fun b => sF (rCd xt.cls) b)) := ok_m_law_untaken B F30 C16 G16
  have G31 : FnOk PySem.Challenge.pw_lockrules_k04_one_condition w K mg base (L2.CX PySem.Challenge.pw_lockrules_k04_one_condition w) 5 f31 _ ["_law_row"] (spR xt (Pt.cons .sh (rLst rInt) inferInstance Pt.nil) (fun (a : ((List Int) × Unit)) => m_law_unreleased a.1) (fun b => sF (rCd xt.cls) b)) := ok_m_law_unreleased B F31 C18 G18
  have G32 : FnOk PySem.Challenge.pw_lockrules_k04_one_condition w K mg base (L2.CX PySem.Challenge.pw_lockrules_k04_one_condition w) 5 f32 _ ["_law_row"] (spR xt (Pt.cons .sh (rLst rInt) inferInstance Pt.nil) (fun (a : ((List Int) × Unit)) => m_law_locks a.1) (fun b => sF (rCd xt.cls) b)) := ok_m_law_locks B F32 C20 G20
  have G33 : FnOk PySem.Challenge.pw_lockrules_k04_one_condition w K mg base (L2.CX PySem.Challenge.pw_lockrules_k04_one_condition w) 6 f33 _ ["_law_kind", "_law_row", "_law_many"] (spR xt (Pt.cons .sh rInt inferInstance (Pt.cons .sh (rLst rInt) inferInstance (Pt.cons .sh (rOpt rInt) inferInstance Pt.nil))) (fun (a : (Int × (List Int) × (Option Int) × Unit)) => m_law_made a.1 a.2.1 a.2.2.1) (fun b => sF (rCd xt.cls) b)) := ok_m_law_made B F33 C28 G28 C27 G27 C29 G29 C30 G30 C31 G31 C32 G32
  have G34 : FnOk PySem.Challenge.pw_lockrules_k04_one_condition w K mg base (L2.CX PySem.Challenge.pw_lockrules_k04_one_condition w) 1 f34 _ ["_law_row", "_law_other"] (spR xt (Pt.cons .sh (rLst rInt) inferInstance (Pt.cons .sh (rLst rInt) inferInstance Pt.nil)) (fun (a : ((List Int) × (List Int) × Unit)) => m_law_inside a.1 a.2.1) (fun b => sF rBl b)) := ok_m_law_inside B F34 
  have G35 : FnOk PySem.Challenge.pw_lockrules_k04_one_condition w K mg base (L2.CX PySem.Challenge.pw_lockrules_k04_one_condition w) 2 f35 _ ["_law_kind", "_law_row", "_law_many", "_law_item", "_law_state_here"] (spR xt (Pt.cons .sh rInt inferInstance (Pt.cons .sh (rLst rInt) inferInstance (Pt.cons .sh (rOpt rInt) inferInstance (Pt.cons .sh rInt inferInstance (Pt.cons .sh rTx inferInstance Pt.nil))))) (fun (a : (Int × (List Int) × (Option Int) × Int × (List Nat) × Unit)) => m_law_truth a.1 a.2.1 a.2.2.1 a.2.2.2.1 a.2.2.2.2.1) (fun b => sF rBl b)) := ok_m_law_truth B F35 C25 G25 C34 G34 C24 G24
  have G36 : FnOk PySem.Challenge.pw_lockrules_k04_one_condition w K mg base (L2.CX PySem.Challenge.pw_lockrules_k04_one_condition w) 30 f36 _ ["_law_condition", "_law_kind", "_law_row", "_law_many", "_law_item", "_law_state_here"] (spR xt (Pt.cons .sh (rCd xt.cls) inferInstance (Pt.cons .sh rInt inferInstance (Pt.cons .sh (rLst rInt) inferInstance (Pt.cons .sh (rOpt rInt) inferInstance (Pt.cons .sh rInt inferInstance (Pt.cons .sh rTx inferInstance Pt.nil)))))) (fun (a : (Cd × Int × (List Int) × (Option Int) × Int × (List Nat) × Unit)) => m_law_fine a.1 a.2.1 a.2.2.1 a.2.2.2.1 a.2.2.2.2.1 a.2.2.2.2.2.1) (fun b => sF rBl b)) := ok_m_law_fine B F36 C35 G35 (HCd 24)
  exact FnOk.imp (ok_m_law B F37 C23 G23 C22 G22 C26 G26 C33 G33 C36 G36) (law_imp ht)
theorem walk {l : PySem.W.OpenLaw} {q : Program} {loose : List Str} {XP : (Str → Option Value) → Heap → Prop} {YP : World → Heap → Prop} {d : DefRec} {K : Params → PySem.W.Frag} (hn : l.most = some 63) (hdf : d.params.defaults = [])
    (hY : ∀ (w : World) (h : Heap), YP w h → (K w.params).In h)
    (F : ∀ (w : World) (mg : Str → Option Value) (fa : Addr) (h : Heap), (K w.params).In h → h.Ns mainGlobals mg → mg d.name = some (.ref fa) →
      ∃ fd : FuncData, (∀ (s : Shared) (u : Value), BindsTo s fd ⟨[u], []⟩ [("_law_script", u)]) ∧ ∀ base : Heap, (K w.params).In base → base.Ns mainGlobals mg → FnOk l.prog w (K w.params) mg base (L2.CX l.prog w) 31 fa fd ["_law_script"] (spLaw (K w.params))) :
    PySem.W.WalkO q loose XP YP l.row.toRowW d [] (fun f vs => PySem.call f vs) :=
  L2.walk_of (n := 63) (k := 31) (x := "_law_script") (CX := fun w => L2.CX l.prog w) (sp := fun w => spLaw (K w.params)) hn (by decide) hdf ⟨rfl, by decide, by decide⟩ hY F (fun _ _ a ns hl _ hS => ⟨a, ns, rfl, hS, hl, fun _ => rfl⟩) fun _ _ _ _ _ z => by
    obtain ⟨_, _, _, _, _, _, _, _, _, _, _, _, z⟩ := z
    exact z.elim
end Zk04
open PySem PySem.W PyProof.Rows
set_option maxRecDepth 100000 in
set_option maxHeartbeats 0 in
theorem PySem.Challenge.cw_lockrules_k04_one_condition_holds : PySem.Challenge.rw_lockrules_k04_one_condition.Holds := by
  w_on; o_law; k_head; (case hw => w_witness2)
  k_fill
  refine Zk04.walk (l := PySem.Challenge.rw_lockrules_k04_one_condition) rfl rfl (fun w h Y => PySem.W.kIn_of Y) ?F
  case F =>
    intro w mg fa h KX G hmg
    refine' Zk04.all_mk rfl Zk04.law_true KX G hmg ?g_k118 ?p1_k118 ?p2_k118 ?p3_k118 ?p4_k118 ?n_k118_listed ?mk1_k118 ?mk2_k118 ?g_k117 ?p1_k117 ?p2_k117 ?p3_k117 ?p4_k117 ?n_k117_listed ?mk1_k117 ?mk2_k117 ?g_k116 ?p1_k116 ?p2_k116 ?p3_k116 ?p4_k116 ?n_k116_listed ?mk1_k116 ?mk2_k116 ?g_k115 ?p1_k115 ?p2_k115 ?p3_k115 ?p4_k115 ?n_k115_exact ?mk1_k115 ?mk2_k115 ?g_k114 ?p1_k114 ?p2_k114 ?p3_k114 ?p4_k114 ?n_k114_needed ?n_k114_least ?mk1_k114 ?mk2_k114 ?g_k113 ?p1_k113 ?p2_k113 ?p3_k113 ?p4_k113 ?n_k113_inner ?mk1_k113 ?mk2_k113 ?g_k112 ?p1_k112 ?p2_k112 ?p3_k112 ?p4_k112 ?n_k112_first ?n_k112_second ?mk1_k112 ?mk2_k112 ?g_k111 ?p1_k111 ?p2_k111 ?p3_k111 ?p4_k111 ?n_k111_first ?n_k111_second ?mk1_k111 ?mk2_k111 ?g_k110 ?p1_k110 ?p2_k110 ?p3_k110 ?p4_k110 ?mk1_k110 ?mk2_k110 ?in_k110 ?a0 ?l0 ?c0 ?k0 ?a1 ?l1 ?c1 ?k1 ?a2 ?l2 ?c2 ?k2 ?a3 ?l3 ?c3 ?k3 ?a4 ?l4 ?c4 ?k4 ?a5 ?ai5 ?af5 ?l5 ?c5 ?k5 ?a6 ?ai6 ?af6 ?l6 ?c6 ?k6 ?a7 ?ai7 ?af7 ?l7 ?c7 ?k7 ?a8 ?ai8 ?af8 ?l8 ?c8 ?k8 ?a9 ?ai9 ?af9 ?l9 ?c9 ?k9 ?a10 ?ai10 ?af10 ?l10 ?c10 ?k10 ?a11 ?ai11 ?af11 ?l11 ?c11 ?k11 ?a12 ?ai12 ?af12 ?l12 ?c12 ?k12 ?kd12 ?a13 ?ai13 ?af13 ?l13 ?c13 ?k13 ?a14 ?ai14 ?af14 ?l14 ?c14 ?k14 ?a15 ?ai15 ?af15 ?l15 ?c15 ?k15 ?a16 ?ai16 ?af16 ?l16 ?c16 ?k16 ?a17 ?ai17 ?af17 ?l17 ?c17 ?k17 ?a18 ?ai18 ?af18 ?l18 ?c18 ?k18 ?a19 ?ai19 ?af19 ?l19 ?c19 ?k19 ?a20 ?ai20 ?af20 ?l20 ?c20 ?k20 ?a21 ?ai21 ?af21 ?l21 ?c21 ?k21 ?a22 ?l22 ?c22 ?k22 ?a23 ?l23 ?c23 ?k23 ?a24 ?l24 ?c24 ?k24 ?a25 ?l25 ?c25 ?k25 ?a26 ?l26 ?c26 ?k26 ?a27 ?l27 ?c27 ?k27 ?a28 ?l28 ?c28 ?k28 ?a29 ?l29 ?c29 ?k29 ?a30 ?l30 ?c30 ?k30 ?a31 ?l31 ?c31 ?k31 ?a32 ?l32 ?c32 ?k32 ?a33 ?l33 ?c33 ?k33 ?a34 ?l34 ?c34 ?k34 ?a35 ?l35 ?c35 ?k35 ?a36 ?l36 ?c36 ?k36 ?a37 ?l37 ?c37 ?k37 ?ga1 ?xl1 ?xr1 ?xs1 ?xe1 ?xt1 ?xk1 ?xi1 ?xj1 ?xf1 ?xc1 ?xm1 ?xn1 ?xo1 ?xp1 ?xq1 ?xu1 ?xv1 ?xw1 ?xA1 ?xB1 ?xC1 ?xD1 ?xE1 ?y0 ?y1 ?y2 ?y3 ?cc_LARGEST ?z_tuple ?z_range ?z_len ?z_all ?z_any ?z_int ?z_isinstance ?z_bool
    (case g_k118 => k_is)
    (case p1_k118 => k_is)
    (case p2_k118 => k_is)
    (case p3_k118 => k_is)
    (case p4_k118 => k_is)
    (case n_k118_listed => k_is)
    (case mk1_k118 => k_is)
    (case mk2_k118 => k_is)
    (case g_k117 => k_is)
    (case p1_k117 => k_is)
    (case p2_k117 => k_is)
    (case p3_k117 => k_is)
    (case p4_k117 => k_is)
    (case n_k117_listed => k_is)
    (case mk1_k117 => k_is)
    (case mk2_k117 => k_is)
    (case g_k116 => k_is)
    (case p1_k116 => k_is)
    (case p2_k116 => k_is)
    (case p3_k116 => k_is)
    (case p4_k116 => k_is)
    (case n_k116_listed => k_is)
    (case mk1_k116 => k_is)
    (case mk2_k116 => k_is)
    (case g_k115 => k_is)
    (case p1_k115 => k_is)
    (case p2_k115 => k_is)
    (case p3_k115 => k_is)
    (case p4_k115 => k_is)
    (case n_k115_exact => k_is)
    (case mk1_k115 => k_is)
    (case mk2_k115 => k_is)
    (case g_k114 => k_is)
    (case p1_k114 => k_is)
    (case p2_k114 => k_is)
    (case p3_k114 => k_is)
    (case p4_k114 => k_is)
    (case n_k114_needed => k_is)
    (case n_k114_least => k_is)
    (case mk1_k114 => k_is)
    (case mk2_k114 => k_is)
    (case g_k113 => k_is)
    (case p1_k113 => k_is)
    (case p2_k113 => k_is)
    (case p3_k113 => k_is)
    (case p4_k113 => k_is)
    (case n_k113_inner => k_is)
    (case mk1_k113 => k_is)
    (case mk2_k113 => k_is)
    (case g_k112 => k_is)
    (case p1_k112 => k_is)
    (case p2_k112 => k_is)
    (case p3_k112 => k_is)
    (case p4_k112 => k_is)
    (case n_k112_first => k_is)
    (case n_k112_second => k_is)
    (case mk1_k112 => k_is)
    (case mk2_k112 => k_is)
    (case g_k111 => k_is)
    (case p1_k111 => k_is)
    (case p2_k111 => k_is)
    (case p3_k111 => k_is)
    (case p4_k111 => k_is)
    (case n_k111_first => k_is)
    (case n_k111_second => k_is)
    (case mk1_k111 => k_is)
    (case mk2_k111 => k_is)
    (case g_k110 => k_is)
    (case p1_k110 => k_is)
    (case p2_k110 => k_is)
    (case p3_k110 => k_is)
    (case p4_k110 => k_is)
    (case mk1_k110 => k_is)
    (case mk2_k110 => k_is)
    (case in_k110 => k_is)
    (case a0 => k_is)
    (case l0 => k_is)
    (case c0 => k_is)
    (case k0 => k_is)
    (case a1 => k_is)
    (case l1 => k_is)
    (case c1 => k_is)
    (case k1 => k_is)
    (case a2 => k_is)
    (case l2 => k_is)
    (case c2 => k_is)
    (case k2 => k_is)
    (case a3 => k_is)
    (case l3 => k_is)
    (case c3 => k_is)
    (case k3 => k_is)
    (case a4 => k_is)
    (case l4 => k_is)
    (case c4 => k_is)
    (case k4 => k_is)
    (case a5 => k_is)
    (case ai5 => k_is)
    (case af5 => k_is)
    (case l5 => k_is)
    (case c5 => k_is)
    (case k5 => k_is)
    (case a6 => k_is)
    (case ai6 => k_is)
    (case af6 => k_is)
    (case l6 => k_is)
    (case c6 => k_is)
    (case k6 => k_is)
    (case a7 => k_is)
    (case ai7 => k_is)
    (case af7 => k_is)
    (case l7 => k_is)
    (case c7 => k_is)
    (case k7 => k_is)
    (case a8 => k_is)
    (case ai8 => k_is)
    (case af8 => k_is)
    (case l8 => k_is)
    (case c8 => k_is)
    (case k8 => k_is)
    (case a9 => k_is)
    (case ai9 => k_is)
    (case af9 => k_is)
    (case l9 => k_is)
    (case c9 => k_is)
    (case k9 => k_is)
    (case a10 => k_is)
    (case ai10 => k_is)
    (case af10 => k_is)
    (case l10 => k_is)
    (case c10 => k_is)
    (case k10 => k_is)
    (case a11 => k_is)
    (case ai11 => k_is)
    (case af11 => k_is)
    (case l11 => k_is)
    (case c11 => k_is)
    (case k11 => k_is)
    (case a12 => k_is)
    (case ai12 => k_is)
    (case af12 => k_is)
    (case l12 => k_is)
    (case c12 => k_is)
    (case k12 => k_is)
    (case kd12 => k_is)
    (case a13 => k_is)
    (case ai13 => k_is)
    (case af13 => k_is)
    (case l13 => k_is)
    (case c13 => k_is)
    (case k13 => k_is)
    (case a14 => k_is)
    (case ai14 => k_is)
    (case af14 => k_is)
    (case l14 => k_is)
    (case c14 => k_is)
    (case k14 => k_is)
    (case a15 => k_is)
    (case ai15 => k_is)
    (case af15 => k_is)
    (case l15 => k_is)
    (case c15 => k_is)
    (case k15 => k_is)
    (case a16 => k_is)
    (case ai16 => k_is)
    (case af16 => k_is)
    (case l16 => k_is)
    (case c16 => k_is)
    (case k16 => k_is)
    (case a17 => k_is)
    (case ai17 => k_is)
    (case af17 => k_is)
    (case l17 => k_is)
    (case c17 => k_is)
    (case k17 => k_is)
    (case a18 => k_is)
    (case ai18 => k_is)
    (case af18 => k_is)
    (case l18 => k_is)
    (case c18 => k_is)
    (case k18 => k_is)
    (case a19 => k_is)
    (case ai19 => k_is)
    (case af19 => k_is)
    (case l19 => k_is)
    (case c19 => k_is)
    (case k19 => k_is)
    (case a20 => k_is)
    (case ai20 => k_is)
    (case af20 => k_is)
    (case l20 => k_is)
    (case c20 => k_is)
    (case k20 => k_is)
    (case a21 => k_is)
    (case ai21 => k_is)
    (case af21 => k_is)
    (case l21 => k_is)
    (case c21 => k_is)
    (case k21 => k_is)
    (case a22 => k_is)
    (case l22 => k_is)
    (case c22 => k_is)
    (case k22 => k_is)
    (case a23 => k_is)
    (case l23 => k_is)
    (case c23 => k_is)
    (case k23 => k_is)
    (case a24 => k_is)
    (case l24 => k_is)
    (case c24 => k_is)
    (case k24 => k_is)
    (case a25 => k_is)
    (case l25 => k_is)
    (case c25 => k_is)
    (case k25 => k_is)
    (case a26 => k_is)
    (case l26 => k_is)
    (case c26 => k_is)
    (case k26 => k_is)
    (case a27 => k_is)
    (case l27 => k_is)
    (case c27 => k_is)
    (case k27 => k_is)
    (case a28 => k_is)
    (case l28 => k_is)
    (case c28 => k_is)
    (case k28 => k_is)
    (case a29 => k_is)
    (case l29 => k_is)
    (case c29 => k_is)
    (case k29 => k_is)
    (case a30 => k_is)
    (case l30 => k_is)
    (case c30 => k_is)
    (case k30 => k_is)
    (case a31 => k_is)
    (case l31 => k_is)
    (case c31 => k_is)
    (case k31 => k_is)
    (case a32 => k_is)
    (case l32 => k_is)
    (case c32 => k_is)
    (case k32 => k_is)
    (case a33 => k_is)
    (case l33 => k_is)
    (case c33 => k_is)
    (case k33 => k_is)
    (case a34 => k_is)
    (case l34 => k_is)
    (case c34 => k_is)
    (case k34 => k_is)
    (case a35 => k_is)
    (case l35 => k_is)
    (case c35 => k_is)
    (case k35 => k_is)
    (case a36 => k_is)
    (case l36 => k_is)
    (case c36 => k_is)
    (case k36 => k_is)
    (case a37 => k_is)
    (case l37 => k_is)
    (case c37 => k_is)
    (case k37 => k_is)
    (case ga1 => k_is)
    (case xl1 => k_is)
    (case xr1 => first | rfl | decide +kernel)
    (case xs1 => k_is)
    (case xe1 => k_is)
    (case xt1 => k_is)
    (case xk1 => k_is)
    (case xi1 => k_is)
    (case xj1 => k_is)
    (case xf1 => k_is)
    (case xc1 => k_is)
    (case xm1 => k_is)
    (case xn1 => first | rfl | decide +kernel)
    (case xo1 => first | rfl | decide +kernel)
    (case xp1 => k_is)
    (case xq1 => ks_is)
    (case xu1 => k_is)
    (case xv1 => k_is)
    (case xw1 => k_is)
    (case xA1 => k_is)
    (case xB1 => k_is)
    (case xC1 => k_is)
    (case xD1 => k_is)
    (case xE1 => k_is)
    (case y0 => k_is)
    (case y1 => k_is)
    (case y2 => k_is)
    (case y3 => k_is)
    (case cc_LARGEST => k_is)
    (case z_tuple => k_is)
    (case z_range => k_is)
    (case z_len => k_is)
    (case z_all => k_is)
    (case z_any => k_is)
    (case z_int => k_is)
    (case z_isinstance => k_is)
    (case z_bool => k_is)
#print axioms PySem.Challenge.cw_lockrules_k04_one_condition_holds
