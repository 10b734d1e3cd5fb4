import PyProof.Rows.All
import Wide.All
import OpenK.AllK
import Wide.FinOn
import HandS.ForMost
import HandS.ForExc
import HandS.Flow
import HandS.IsInst
import HandS.Walk
import HandS.Conv
import HandS.ExcInit
import HandS.ExcOwn
import HandS.TryMany
import HandS.ExcSuper
import KE.KSuper
import KE.KExcSuper
import HandS.ExcField
import HandS.WordsExc
import HandS.ExcIs
import KE.KExcIs
import KE.RegKSuper
import KE.RegKTryMore
import KE.RegKIsAll
import HandS.DictComp
import HandS.CallSlots
import HandS.Property
import HandS.ClsMeth
import HandS.SetFor
import HandS.Defaults
import HandS.ReplaceList
import HandS.ReplaceLit
import HandS.RaiseMore
import HandS.Style
import HandS.Text
import PyProof.Rows.RegReprOcc
import PyProof.Rows.StrMeet
import KE.DatumOrd
import HandS.TupAny
import HandS.Iter
import HandS.Remove
import HandS.Strs
import HandS.Deep
import HandS.SortInts
import PyProof.AutoSeq1
import HandS.HotCalls
import HandS.MakeKw
import HandS.GenCall
import HandS.GenList
import PySem.Challenge.RW_lockrules_k08_books_of_entries
set_option Elab.async false
set_option linter.all false
set_option maxRecDepth 100000
noncomputable section
set_option Elab.async false
set_option linter.all false
set_option maxRecDepth 100000
set_option maxHeartbeats 4000000
set_option autoImplicit false
namespace LK
open PySem L2
abbrev Rp (α : Type) := Hp → V → α → Prop
def Ex (H H' : Hp) : Prop := ∀ a o, H a = some o → H' a = some o
theorem Ex.refl (H : Hp) : Ex H H := fun _ _ h => h
theorem Ex.trans {H H1 H2 : Hp} (a : Ex H H1) (b : Ex H1 H2) : Ex H H2 := fun x o h => b x o (a x o h)
theorem Ex.back {H H' : Hp} {p : Addr} (e : Ex H H') (h : H' p = none) : H p = none := by
  cases h1 : H p with
  | none => rfl
  | some o => rw [e p o h1] at h; cases h
theorem Ex.new {H : Hp} {p : Addr} {o : HO} (h : H p = none) : Ex H (upd H p o) := fun a u e => by
  rw [upd_ne (ne_of_none e h)]; exact e
/-- what an object is, locked or not -/
def core : HO → HO
  | .frz _ u => u
  | o => o
def isD : HO → Bool
  | .dK _ => true
  | .dT _ => true
  | _ => false
/-- as Ex (once: up to locks) -/
def Exs (F F' : Hp) : Prop := Ex F F'
theorem Ex.s {H H' : Hp} (e : Ex H H') : Exs H H' := e
theorem Exs.at_ {F F' : Hp} {p : Addr} {o : HO} (e : Exs F F') (h : F p = some o) (hd : isD (core o) = false) : F' p = some o := e p o h
theorem Exs.rd {F F' : Hp} {p : Addr} {u : HO} (e : Exs F F') (h : Rd F p u) (hd : isD u = true) : Rd F' p u := by
  rcases h with h | ⟨ob, h⟩
  · exact .inl (e _ _ h)
  · exact .inr ⟨ob, e _ _ h⟩
class Mo {α : Type} (r : Rp α) : Prop where
  mo : ∀ {F F' : Hp} {v : V} {a : α}, Exs F F' → r F v a → r F' v a
theorem Mo.ex {α : Type} {r : Rp α} (i : Mo r) {F F' : Hp} {v : V} {a : α} (e : Ex F F') (h : r F v a) : r F' v a := i.mo e.s h
theorem mox {α : Type} {r : Rp α} [i : Mo r] {F F' : Hp} {v : V} {a : α} (e : Ex F F') (h : r F v a) : r F' v a := i.mo e.s h
/-- what does not lean on the heap -/
class Fl {α : Type} (r : Rp α) : Prop where
  fl : ∀ {F F' : Hp} {v : V} {a : α}, r F v a → r F' v a
instance {α : Type} (r : Rp α) [h : Fl r] : Mo r := ⟨fun _ x => h.fl x⟩
def rInt : Rp Int := fun _ v a => v = .int a
def rBl : Rp Bool := fun _ v a => v = .bl a
def rNon : Rp Unit := fun _ v _ => v = .non
def rTx : Rp (List Nat) := fun _ v a => v = .str ⟨a.toArray⟩ ∧ a.length ≤ 16777216 ∧ ∀ c ∈ a, c < 1114112
def rRef : Rp Addr := fun _ v a => v = .ref a
instance : Fl rInt := ⟨fun h => h⟩
instance : Fl rBl := ⟨fun h => h⟩
instance : Fl rNon := ⟨fun h => h⟩
instance : Fl rTx := ⟨fun h => h⟩
instance : Fl rRef := ⟨fun h => h⟩
def rLst {α : Type} (r : Rp α) : Rp (List α) := fun F v xs => ∃ p vs, v = .ref p ∧ F p = some (.lst vs) ∧ xs.length ≤ 16777216 ∧ Paired (r F) vs xs
def rTup {α : Type} (r : Rp α) : Rp (List α) := fun F v xs => ∃ p vs, v = .ref p ∧ F p = some (.tup vs) ∧ xs.length ≤ 16777216 ∧ Paired (r F) vs xs
def rPr {α β : Type} (r : Rp α) (s : Rp β) : Rp (α × β) := fun F v x => ∃ p u w, v = .ref p ∧ F p = some (.tup [u, w]) ∧ r F u x.1 ∧ s F w x.2
def rP3 {α β γ : Type} (r : Rp α) (s : Rp β) (t : Rp γ) : Rp (α × β × γ) := fun F v x => ∃ p u w z, v = .ref p ∧ F p = some (.tup [u, w, z]) ∧ r F u x.1 ∧ s F w x.2.1 ∧ t F z x.2.2
/-- never None -/
class Nn {α : Type} (r : Rp α) : Prop where
  nn : ∀ {F : Hp} {v : V} {a : α}, r F v a → v ≠ .non
def rOpt {α : Type} (r : Rp α) : Rp (Option α) := fun F v x => match x with
  | none => v = .non
  | some a => r F v a
theorem pmap {α β : Type} {R S : α → β → Prop} : ∀ {xs : List α} {ys : List β}, (∀ a b, R a b → S a b) → Paired R xs ys → Paired S xs ys
  | _, _, _, .nil => .nil
  | _, _, f, .cons h t => .cons (f _ _ h) (pmap f t)
instance {α : Type} (r : Rp α) [h : Mo r] : Mo (rLst r) := ⟨fun e ⟨p, vs, h1, h2, h3, h4⟩ => ⟨p, vs, h1, e.at_ h2 rfl, h3, pmap (fun _ _ z => h.mo e z) h4⟩⟩
instance {α : Type} (r : Rp α) [h : Mo r] : Mo (rTup r) := ⟨fun e ⟨p, vs, h1, h2, h3, h4⟩ => ⟨p, vs, h1, e.at_ h2 rfl, h3, pmap (fun _ _ z => h.mo e z) h4⟩⟩
instance {α β : Type} (r : Rp α) (s : Rp β) [h : Mo r] [g : Mo s] : Mo (rPr r s) := ⟨fun e ⟨p, u, w, h1, h2, h3, h4⟩ => ⟨p, u, w, h1, e.at_ h2 rfl, h.mo e h3, g.mo e h4⟩⟩
instance {α β γ : Type} (r : Rp α) (s : Rp β) (t : Rp γ) [h : Mo r] [g : Mo s] [k : Mo t] : Mo (rP3 r s t) := ⟨fun e ⟨p, u, w, z, h1, h2, h3, h4, h5⟩ => ⟨p, u, w, z, h1, e.at_ h2 rfl, h.mo e h3, g.mo e h4, k.mo e h5⟩⟩
instance {α : Type} (r : Rp α) [h : Mo r] : Mo (rOpt r) := ⟨fun {F F' v a} e x => by
  cases a with
  | none => exact x
  | some b => exact h.mo e x⟩
instance {α : Type} (r : Rp α) [h : Fl r] : Fl (rOpt r) := ⟨fun {F F' v a} x => by
  cases a with
  | none => exact x
  | some b => exact h.fl x⟩
instance : Nn rInt := ⟨fun h => by rw [show _ = _ from h]; intro z; cases z⟩
instance : Nn rBl := ⟨fun h => by rw [show _ = _ from h]; intro z; cases z⟩
instance : Nn rTx := ⟨fun h => by rw [h.1]; intro z; cases z⟩
instance {α : Type} (r : Rp α) : Nn (rLst r) := ⟨fun ⟨_, _, h, _⟩ => by rw [h]; intro z; cases z⟩
instance {α : Type} (r : Rp α) : Nn (rTup r) := ⟨fun ⟨_, _, h, _⟩ => by rw [h]; intro z; cases z⟩
instance {α β : Type} (r : Rp α) (s : Rp β) : Nn (rPr r s) := ⟨fun ⟨_, _, _, h, _⟩ => by rw [h]; intro z; cases z⟩
/-- a tuple -/
def isT : HO → Bool
  | .tup _ => true
  | _ => false
/-- F: what never changes from here on; H: all that is tracked -/
structure Gr (F H F' H' : Hp) : Prop where
  ff : Ex F F'
  fh : Ex F' H'
  hh : Ex H H'
  nw : ∀ p o, F' p = some o → F p = none → H p = none ∨ isT o = true
theorem Gr.refl {F H : Hp} (e : Ex F H) : Gr F H F H := ⟨Ex.refl F, e, Ex.refl H, fun p o h1 h2 => by rw [h1] at h2; cases h2⟩
theorem Gr.trans {F H F1 H1 F2 H2 : Hp} (a : Gr F H F1 H1) (b : Gr F1 H1 F2 H2) : Gr F H F2 H2 := ⟨a.ff.trans b.ff, b.fh, a.hh.trans b.hh, fun p o h1 h2 => by
  cases e : F1 p with
  | none => exact (b.nw p o h1 e).imp (fun z => a.hh.back z) id
  | some u =>
    have z := b.ff p u e
    rw [h1] at z; cases z
    exact a.nw p o e h2⟩
theorem Gr.frO {F H F' H' : Hp} {a : Addr} (g : Gr F H F' H') (h1 : F a = none) (hn : H a ≠ none) (ty : ∀ o, H a = some o → isT o = false) : F' a = none := by
  cases q : F' a with
  | none => rfl
  | some u =>
    rcases g.nw a u q h1 with z | z
    · exact absurd z hn
    · cases h : H a with
      | none => exact absurd h hn
      | some o =>
        have e := g.hh a o h
        rw [g.fh a u q] at e
        cases e
        rw [ty _ h] at z; cases z
theorem Gr.fr {F H F' H' : Hp} {a : Addr} {o : HO} (g : Gr F H F' H') (h1 : F a = none) (h2 : H a = some o) (ht : isT o = false) : F' a = none :=
  g.frO h1 (by rw [h2]; exact fun z => nomatch z) fun o' e => by rw [h2] at e; cases e; exact ht
/-- a new object, frozen at once -/
theorem Gr.new {F H : Hp} {p : Addr} {o : HO} (e : Ex F H) (h : H p = none) : Gr F H (upd F p o) (upd H p o) := by
  have hF := e.back h
  refine ⟨Ex.new hF, fun a u q => ?_, Ex.new h, fun a u q n => ?_⟩
  · by_cases ha : a = p
    · subst ha; rw [upd_same] at q ⊢; exact q
    · rw [upd_ne ha] at q ⊢; exact e a u q
  · by_cases ha : a = p
    · subst ha; exact .inl h
    · rw [upd_ne ha, n] at q; cases q
/-- a new object, not frozen -/
theorem Gr.wild {F H : Hp} {p : Addr} {o : HO} (e : Ex F H) (h : H p = none) : Gr F H F (upd H p o) :=
  ⟨Ex.refl F, e.trans (Ex.new h), Ex.new h, fun a u q n => by rw [n] at q; cases q⟩
/-- an own thing that may still change: over what is frozen, the heap, its root, the addresses that are its own -/
abbrev Mu := Hp → Hp → Addr → List Addr → Prop
class MoM (M : Mu) : Prop where
  mo : ∀ {F F' H H' : Hp} {p : Addr} {S : List Addr}, Exs F F' → (∀ a ∈ S, H' a = H a) → M F H p S → M F' H' p S
  own : ∀ {F H : Hp} {p : Addr} {S : List Addr}, M F H p S → ∀ a ∈ S, H a ≠ none
  ty : ∀ {F H : Hp} {p : Addr} {S : List Addr}, M F H p S → ∀ a ∈ S, ∀ o, H a = some o → isT o = false
/-- an own list -/
def mL {α : Type} (r : Rp α) (xs : List α) : Mu := fun F H p S => S = [p] ∧ ∃ vs, H p = some (.lst vs) ∧ xs.length ≤ 16777216 ∧ Paired (r F) vs xs
instance {α : Type} (r : Rp α) [h : Mo r] (xs : List α) : MoM (mL r xs) := ⟨fun e k ⟨h0, vs, h1, h2, h3⟩ => ⟨h0, vs, by rw [k _ (by rw [h0]; exact List.mem_cons_self)]; exact h1, h2, pmap (fun _ _ z => h.mo e z) h3⟩,
  fun ⟨h0, vs, h1, _⟩ a ha => by rw [h0] at ha; rw [List.mem_singleton.mp ha, h1]; exact (fun z => nomatch z), fun ⟨h0, vs, h1, _⟩ a ha o e => by rw [h0] at ha; rw [List.mem_singleton.mp ha, h1] at e; cases e; rfl⟩
inductive Slot : Type 1
  | no
  | fz {α : Type} (r : Rp α) (i : Mo r) (a : α)
  | bw {α : Type} (r : Rp α) (i : Mo r) (a : α)
  | ow (M : Mu) (i : MoM M)
abbrev sF {α : Type} (r : Rp α) [i : Mo r] (a : α) : Slot := .fz r i a
abbrev sB {α : Type} (r : Rp α) [i : Mo r] (a : α) : Slot := .bw r i a
abbrev sO (M : Mu) [i : MoM M] : Slot := .ow M i
abbrev sL {α : Type} (r : Rp α) [Mo r] (xs : List α) : Slot := sO (mL r xs)
def SlotOk (H0 F H : Hp) (s : Option V) (S : List Addr) : Slot → Prop
  | .no => True
  | .fz r _ a => ∃ v, s = some v ∧ r F v a
  | .bw r _ a => ∃ v, s = some v ∧ r H0 v a
  | .ow M _ => ∃ p, s = some (.ref p) ∧ (∀ a ∈ S, F a = none ∧ H0 a = none) ∧ M F H p S
structure EnvF (F0 H0 : Hp) (G : List Slot) (σ : L2.St) (F H : Hp) (fp : Nat → List Addr) : Prop where
  gr : Gr F0 H0 F H
  len : σ.length = G.length
  at_ : ∀ (i : Nat) (s : Slot), G[i]? = some s → ∃ x, σ[i]? = some x ∧ SlotOk H0 F H x (fp i) s
  dj : ∀ (i j : Nat) (M : Mu) (iM : MoM M) (N : Mu) (iN : MoM N) (a : Addr), i ≠ j → G[i]? = some (.ow M iM) → G[j]? = some (.ow N iN) → a ∈ fp i → a ∉ fp j
def EnvOk (F0 H0 : Hp) (G : List Slot) (σ : L2.St) (F H : Hp) : Prop := ∃ fp, EnvF F0 H0 G σ F H fp
section
variable {F0 H0 F H F' H' : Hp} {G : List Slot} {σ : L2.St}
theorem EnvOk.gr (E : EnvOk F0 H0 G σ F H) : Gr F0 H0 F H := let ⟨_, e⟩ := E; e.gr
theorem EnvOk.len (E : EnvOk F0 H0 G σ F H) : σ.length = G.length := let ⟨_, e⟩ := E; e.len
theorem EnvOk.fz_at {α : Type} {r : Rp α} {im : Mo r} {a : α} {i : Nat} (E : EnvOk F0 H0 G σ F H) (h : G[i]? = some (.fz r im a)) : ∃ v, σ[i]? = some (some v) ∧ r F v a := by
  obtain ⟨fp, e⟩ := E
  obtain ⟨x, hx, v, hv, ok⟩ := e.at_ i _ h
  exact ⟨v, by rw [hx, hv], ok⟩
theorem EnvOk.bw_at {α : Type} {r : Rp α} {im : Mo r} {a : α} {i : Nat} (E : EnvOk F0 H0 G σ F H) (h : G[i]? = some (.bw r im a)) : ∃ v, σ[i]? = some (some v) ∧ r H0 v a := by
  obtain ⟨fp, e⟩ := E
  obtain ⟨x, hx, v, hv, ok⟩ := e.at_ i _ h
  exact ⟨v, by rw [hx, hv], ok⟩
theorem EnvOk.ow_at {M : Mu} {iM : MoM M} {i : Nat} (E : EnvOk F0 H0 G σ F H) (h : G[i]? = some (.ow M iM)) : ∃ p S, σ[i]? = some (some (.ref p)) ∧ (∀ a ∈ S, F a = none ∧ H0 a = none) ∧ M F H p S := by
  obtain ⟨fp, e⟩ := E
  obtain ⟨x, hx, p, hp, ok⟩ := e.at_ i _ h
  exact ⟨p, _, by rw [hx, hp], ok⟩
theorem EnvOk.lst_at {α : Type} {r : Rp α} {xs : List α} {iM : MoM (mL r xs)} {i : Nat} (E : EnvOk F0 H0 G σ F H) (h : G[i]? = some (.ow (mL r xs) iM)) : ∃ p vs, σ[i]? = some (some (.ref p)) ∧ F p = none ∧ H0 p = none ∧ H p = some (.lst vs) ∧ xs.length ≤ 16777216 ∧ Paired (r F) vs xs := by
  obtain ⟨p, S, e, h1, rfl, vs, h2, h3, h4⟩ := E.ow_at h
  exact ⟨p, vs, e, (h1 p (by simp)).1, (h1 p (by simp)).2, h2, h3, h4⟩
theorem EnvOk.gro (E : EnvOk F0 H0 G σ F H) (g : Gr F H F' H') : EnvOk F0 H0 G σ F' H' := by
  obtain ⟨fp, E⟩ := E
  refine ⟨fp, E.gr.trans g, E.len, fun i s h => ?_, E.dj⟩
  obtain ⟨x, hx, ok⟩ := E.at_ i s h
  refine ⟨x, hx, ?_⟩
  cases s with
  | no => trivial
  | fz r im a => obtain ⟨v, e, q⟩ := ok; exact ⟨v, e, im.ex g.ff q⟩
  | bw r im a => exact ok
  | ow M im =>
    obtain ⟨p, e, h1, h2⟩ := ok
    refine ⟨p, e, fun a ha => ⟨?_, (h1 a ha).2⟩, im.mo g.ff.s (fun a ha => ?_) h2⟩
    · exact g.frO (h1 a ha).1 (im.own h2 a ha) (im.ty h2 a ha)
    · cases q : H a with
      | none => exact absurd q (im.own h2 a ha)
      | some u => exact g.hh a u q
theorem set_get.{u} {α : Type u} {l : List α} {i j : Nat} {x y : α} (h : (l.set i x)[j]? = some y) : (i = j ∧ i < l.length ∧ x = y) ∨ (i ≠ j ∧ l[j]? = some y) := by
  by_cases e : i = j
  · subst e
    by_cases hl : i < l.length
    · rw [List.getElem?_set_self hl] at h; exact .inl ⟨rfl, hl, Option.some.inj h⟩
    · rw [List.getElem?_eq_none (by simpa using hl)] at h; cases h
  · rw [List.getElem?_set_ne e] at h; exact .inr ⟨e, h⟩
/-- a slot is stored, no own thing -/
theorem EnvOk.set {i : Nat} {s : Slot} {v : V} (E : EnvOk F0 H0 G σ F H) (ok : SlotOk H0 F H (some v) [] s) (hn : ∀ M im, s ≠ .ow M im) : EnvOk F0 H0 (G.set i s) (σ.set i (some v)) F H := by
  obtain ⟨fp, E⟩ := E
  refine ⟨fp, E.gr, by rw [List.length_set, List.length_set, E.len], fun j t h => ?_, fun j k M iM N iN a hjk h1 h2 h3 => ?_⟩
  · rcases set_get h with ⟨rfl, hl, rfl⟩ | ⟨ne, h⟩
    · refine ⟨_, by rw [List.getElem?_set_self (by rw [E.len]; exact hl)], ?_⟩
      cases s with
      | ow M im => exact absurd rfl (hn M im)
      | no => trivial
      | fz r im a => exact ok
      | bw r im a => exact ok
    · obtain ⟨x, hx, o⟩ := E.at_ j t h
      exact ⟨x, by rw [List.getElem?_set_ne ne]; exact hx, o⟩
  · rcases set_get h1 with ⟨_, _, e⟩ | ⟨n1, h1⟩
    · exact absurd e (hn M iM)
    · rcases set_get h2 with ⟨_, _, e⟩ | ⟨n2, h2⟩
      · exact absurd e (hn N iN)
      · exact E.dj j k M iM N iN a hjk h1 h2 h3
/-- a slot gets a new own thing, at addresses that were free -/
theorem EnvOk.setO {i : Nat} {M : Mu} {im : MoM M} {p : Addr} {S : List Addr} (E : EnvOk F0 H0 G σ F H) (g : Gr F H F' H') (hS : ∀ a ∈ S, H a = none ∧ F' a = none) (m : M F' H' p S) : EnvOk F0 H0 (G.set i (.ow M im)) (σ.set i (some (.ref p))) F' H' := by
  have hE := E
  obtain ⟨fp, E⟩ := E
  have old : ∀ (j : Nat) (N : Mu) (iN : MoM N) (a : Addr), G[j]? = some (.ow N iN) → a ∈ fp j → a ∉ S := fun j N iN a h1 h2 h3 => by
    obtain ⟨x, hx, q, _, _, ok⟩ := E.at_ j _ h1
    exact iN.own ok a h2 (hS a h3).1
  obtain ⟨fp', E'⟩ : ∃ fp', EnvF F0 H0 G σ F' H' fp' ∧ fp' = fp := by
    refine ⟨fp, ⟨E.gr.trans g, E.len, fun j s h => ?_, E.dj⟩, rfl⟩
    obtain ⟨x, hx, ok⟩ := E.at_ j s h
    refine ⟨x, hx, ?_⟩
    cases s with
    | no => trivial
    | fz r im a => obtain ⟨v, e, q⟩ := ok; exact ⟨v, e, im.ex g.ff q⟩
    | bw r im a => exact ok
    | ow N iN =>
      obtain ⟨q, e, h1, h2⟩ := ok
      refine ⟨q, e, fun a ha => ⟨?_, (h1 a ha).2⟩, iN.mo g.ff.s (fun a ha => ?_) h2⟩
      · exact g.frO (h1 a ha).1 (iN.own h2 a ha) (iN.ty h2 a ha)
      · cases z : H a with
        | none => exact absurd z (iN.own h2 a ha)
        | some u => exact g.hh a u z
  obtain ⟨E', rfl⟩ := E'
  refine ⟨fun j => if j = i then S else fp' j, E'.gr, by rw [List.length_set, List.length_set, E.len], fun j t h => ?_, fun j k N iN N' iN' a hjk h1 h2 h3 => ?_⟩
  · rcases set_get h with ⟨rfl, hl, rfl⟩ | ⟨ne, h⟩
    · refine ⟨_, by rw [List.getElem?_set_self (by rw [E.len]; exact hl)], p, rfl, fun a ha => ?_, ?_⟩
      · rw [if_pos rfl] at ha
        exact ⟨(hS a ha).2, E.gr.hh.back (hS a ha).1⟩
      · rw [if_pos rfl]; exact m
    · obtain ⟨x, hx, o⟩ := E'.at_ j t h
      refine ⟨x, by rw [List.getElem?_set_ne ne]; exact hx, ?_⟩
      rw [if_neg (fun e => ne e.symm)]
      exact o
  · rcases set_get h1 with ⟨rfl, _, _⟩ | ⟨n1, h1⟩
    · rw [if_pos rfl] at h3
      rw [if_neg (fun e => hjk e.symm)]
      rcases set_get h2 with ⟨e', _, _⟩ | ⟨n2, h2⟩
      · exact absurd e' hjk
      · exact fun z => old k _ _ a h2 z h3
    · rw [if_neg (fun e => n1 e.symm)] at h3
      rcases set_get h2 with ⟨rfl, _, _⟩ | ⟨n2, h2⟩
      · rw [if_pos rfl]; exact old j _ _ a h1 h3
      · rw [if_neg (fun e => n2 e.symm)]
        exact E.dj j k N iN N' iN' a hjk h1 h2 h3
/-- an own thing changes: what was its own or is new, nothing else -/
theorem EnvOk.mut {i : Nat} {M N : Mu} {im : MoM M} {iN : MoM N} {p : Addr} {S S' : List Addr} (E : EnvOk F0 H0 G σ F H) (hi : G[i]? = some (.ow M im))
    (k : ∀ p S, σ[i]? = some (some (.ref p)) → (∀ a ∈ S, F a = none ∧ H0 a = none) → M F H p S → ∃ S', Ex F F' ∧ (∀ a u, F' a = some u → F a = none → H a = none ∨ isT u = true) ∧ (∀ a, a ∉ S → a ∉ S' → H a ≠ none → H' a = H a) ∧ Ex F' H' ∧ (∀ a ∈ S', (a ∈ S ∨ H a = none) ∧ F' a = none) ∧ N F' H' p S') : EnvOk F0 H0 (G.set i (.ow N iN)) σ F' H' := by
  obtain ⟨fp, E⟩ := E
  obtain ⟨x, hx, p, e1, f1, f2⟩ := E.at_ i _ hi
  subst e1
  obtain ⟨S', ff, nw, keep, fh, own, m⟩ := k p _ hx f1 f2
  have hil : i < G.length := (List.getElem?_eq_some_iff.mp hi).1
  have out : ∀ (j : Nat) (A : Mu) (iA : MoM A) (a : Addr), j ≠ i → G[j]? = some (.ow A iA) → a ∈ fp j → a ∉ fp i ∧ a ∉ S' ∧ H a ≠ none := fun j A iA a hj h1 h2 => by
    obtain ⟨y, hy, q, _, _, ok⟩ := E.at_ j _ h1
    have h3 : a ∉ fp i := E.dj j i _ _ _ _ a hj h1 hi h2
    have h4 := iA.own ok a h2
    exact ⟨h3, fun z => (own a z).1.elim h3 h4, h4⟩
  refine ⟨fun j => if j = i then S' else fp j, ⟨E.gr.ff.trans ff, fh, fun a u e => ?_, fun a u q n => ?_⟩, by rw [List.length_set, E.len], fun j t h => ?_, fun j l A iA B iB a hjk h1 h2 h3 => ?_⟩
  · have z := E.gr.hh a u e
    have nS : a ∉ fp i := fun z => by rw [(f1 a z).2] at e; cases e
    have nS' : a ∉ S' := fun y => by
      rcases (own a y).1 with y | y
      · exact nS y
      · rw [z] at y; cases y
    rw [keep a nS nS' (by rw [z]; exact fun q => nomatch q)]; exact z
  · cases q' : F a with
    | none => exact (nw a u q q').imp (fun z => E.gr.hh.back z) id
    | some o =>
      have z := ff a o q'
      rw [q] at z; cases z
      exact E.gr.nw a u q' n
  · rcases set_get h with ⟨rfl, hl, rfl⟩ | ⟨ne, h⟩
    · refine ⟨_, hx, p, rfl, fun a ha => ?_, ?_⟩
      · rw [if_pos rfl] at ha
        refine ⟨(own a ha).2, ?_⟩
        rcases (own a ha).1 with y | y
        · exact (f1 a y).2
        · exact E.gr.hh.back y
      · rw [if_pos rfl]; exact m
    · obtain ⟨y, hy, ok⟩ := E.at_ j t h
      refine ⟨y, hy, ?_⟩
      rw [if_neg (fun e => ne e.symm)]
      cases t with
      | no => trivial
      | fz r im a => obtain ⟨v, e, q⟩ := ok; exact ⟨v, e, im.ex ff q⟩
      | bw r im a => exact ok
      | ow B iB =>
        obtain ⟨q, e, g1, g2⟩ := ok
        refine ⟨q, e, fun a ha => ⟨?_, (g1 a ha).2⟩, iB.mo ff.s (fun a ha => ?_) g2⟩
        · cases z : F' a with
          | none => rfl
          | some u =>
            rcases nw a u z (g1 a ha).1 with w | w
            · exact absurd w (iB.own g2 a ha)
            · obtain ⟨o1, o2, o3⟩ := out j _ _ a (fun e => ne e.symm) h ha
              have e1 := fh a u z
              rw [keep a o1 o2 o3] at e1
              rw [iB.ty g2 a ha u e1] at w; cases w
        · obtain ⟨o1, o2, o3⟩ := out j _ _ a (fun e => ne e.symm) h ha
          exact keep a o1 o2 o3
  · have old : ∀ (j : Nat) (A : Mu) (iA : MoM A), (G.set i (.ow N iN))[j]? = some (.ow A iA) → ∃ (A' : Mu) (iA' : MoM A'), G[j]? = some (.ow A' iA') := fun j A iA h => by
      rcases set_get h with ⟨rfl, _, _⟩ | ⟨_, h⟩
      · exact ⟨_, _, hi⟩
      · exact ⟨_, _, h⟩
    obtain ⟨A', iA', k1⟩ := old j _ _ h1
    obtain ⟨B', iB', k2⟩ := old l _ _ h2
    by_cases ej : j = i
    · rw [if_pos ej] at h3
      rw [if_neg (fun e => hjk (ej.trans e.symm))]
      exact fun z => (out l _ _ a (fun e => hjk (ej.trans e.symm)) k2 z).2.1 h3
    · rw [if_neg ej] at h3
      by_cases el : l = i
      · rw [if_pos el]
        exact (out j _ _ a ej k1 h3).2.1
      · rw [if_neg el]
        exact E.dj j l _ _ _ _ a hjk k1 k2 h3
/-- an own list changes -/
theorem EnvOk.mutL {α β : Type} {r : Rp α} {s : Rp β} {xs : List α} {ys : List β} {im : MoM (mL r xs)} {iN : MoM (mL s ys)} {i : Nat} {p : Addr} {vs : List V} (E : EnvOk F0 H0 G σ F H) (hi : G[i]? = some (.ow (mL r xs) im)) (hp : σ[i]? = some (some (.ref p))) (hl : ys.length ≤ 16777216) (m : Paired (s F) vs ys) :
    EnvOk F0 H0 (G.set i (.ow (mL s ys) iN)) σ F (upd H p (.lst vs)) := by
  have gr := E.gr
  refine E.mut (p := p) (S := []) (S' := []) hi fun q S hq hS ⟨hS', ws, h1, h2, h3⟩ => ?_
  rw [hp] at hq; cases hq
  subst hS'
  have hF := (hS p (by simp)).1
  refine ⟨[p], Ex.refl F, fun a u e n => (by rw [n] at e; cases e), fun a ha _ _ => upd_ne (fun e => ha (by rw [e]; simp)), fun a u e => by rw [upd_ne (ne_of_none e hF)]; exact gr.fh a u e, fun a ha => ⟨.inl ha, by rw [List.mem_singleton.mp ha]; exact hF⟩, rfl, vs, upd_same, hl, m⟩
/-- an own thing is frozen, with all that is its own -/
theorem EnvOk.freeze {i : Nat} {M : Mu} {im : MoM M} {s : Slot} (E : EnvOk F0 H0 G σ F H) (hi : G[i]? = some (.ow M im)) (hs : ∀ p S F', M F H p S → (∀ a ∈ S, F' a = H a) → Ex F F' → Ex F' H → SlotOk H0 F' H (some (.ref p)) [] s) (hn : ∀ M im, s ≠ .ow M im) :
    ∃ F', EnvOk F0 H0 (G.set i s) σ F' H ∧ Gr F0 H0 F' H ∧ Ex F F' := by
  obtain ⟨fp, E⟩ := E
  obtain ⟨x, hx, p, e1, f1, f2⟩ := E.at_ i _ hi
  subst e1
  have hil : i < G.length := (List.getElem?_eq_some_iff.mp hi).1
  let F' : Hp := fun a => if a ∈ fp i then H a else F a
  have at1 : ∀ a ∈ fp i, F' a = H a := fun a ha => if_pos ha
  have at2 : ∀ a, a ∉ fp i → F' a = F a := fun a ha => if_neg ha
  have ff : Ex F F' := fun a o e => by rw [at2 a (fun z => by rw [(f1 a z).1] at e; cases e)]; exact e
  have fh : Ex F' H := fun a o e => by
    by_cases ha : a ∈ fp i
    · rw [at1 a ha] at e; exact e
    · rw [at2 a ha] at e; exact E.gr.fh a o e
  have g : Gr F0 H0 F' H := ⟨E.gr.ff.trans ff, fh, E.gr.hh, fun a u q n => by
    by_cases ha : a ∈ fp i
    · exact .inl (f1 a ha).2
    · rw [at2 a ha] at q; exact E.gr.nw a u q n⟩
  refine ⟨F', ⟨fp, g, by rw [List.length_set, E.len], fun j t h => ?_, fun j k A iA B iB a hjk h1 h2 h3 => ?_⟩, g, ff⟩
  · rcases set_get h with ⟨rfl, hl, rfl⟩ | ⟨ne, h⟩
    · refine ⟨_, hx, ?_⟩
      have z := hs p _ F' f2 at1 ff fh
      cases s with
      | ow M im => exact absurd rfl (hn M im)
      | no => trivial
      | fz r im a => exact z
      | bw r im a => exact z
    · obtain ⟨y, hy, ok⟩ := E.at_ j t h
      refine ⟨y, hy, ?_⟩
      cases t with
      | no => trivial
      | fz r im a => obtain ⟨v, e, q⟩ := ok; exact ⟨v, e, im.ex ff q⟩
      | bw r im a => exact ok
      | ow B iB =>
        obtain ⟨q, e, g1, g2⟩ := ok
        exact ⟨q, e, fun a ha => ⟨by rw [at2 a (E.dj j i _ _ _ _ a (fun e => ne e.symm) h hi ha)]; exact (g1 a ha).1, (g1 a ha).2⟩, iB.mo ff.s (fun _ _ => rfl) g2⟩
  · rcases set_get h1 with ⟨_, _, e⟩ | ⟨n1, h1⟩
    · exact absurd e (hn A iA)
    · rcases set_get h2 with ⟨_, _, e⟩ | ⟨n2, h2⟩
      · exact absurd e (hn B iB)
      · exact E.dj j k _ _ _ _ a hjk h1 h2 h3
/-- forgetting -/
theorem EnvOk.drop {i : Nat} (E : EnvOk F0 H0 G σ F H) : EnvOk F0 H0 (G.set i .no) σ F H := by
  obtain ⟨fp, E⟩ := E
  refine ⟨fp, E.gr, by rw [List.length_set, E.len], fun j t h => ?_, fun j k A iA B iB q hjk h1 h2 h3 => ?_⟩
  · rcases set_get h with ⟨rfl, hl, rfl⟩ | ⟨ne, h⟩
    · exact ⟨_, by rw [List.getElem?_eq_getElem (by rw [E.len]; exact hl)], trivial⟩
    · exact E.at_ j t h
  · rcases set_get h1 with ⟨_, _, e⟩ | ⟨n1, h1⟩
    · cases e
    · rcases set_get h2 with ⟨_, _, e⟩ | ⟨n2, h2⟩
      · cases e
      · exact E.dj j k _ _ _ _ q hjk h1 h2 h3
theorem EnvOk.wipe (E : EnvOk F0 H0 G σ F H) {i : Nat} : EnvOk F0 H0 (G.set i .no) (σ.set i none) F H := by
  obtain ⟨fp, E⟩ := E
  refine ⟨fp, E.gr, by rw [List.length_set, List.length_set, E.len], fun j t h => ?_, fun j k A iA B iB q hjk h1 h2 h3 => ?_⟩
  · rcases set_get h with ⟨rfl, hl, rfl⟩ | ⟨ne, h⟩
    · exact ⟨_, by rw [List.getElem?_set_self (by rw [E.len]; exact hl)], trivial⟩
    · obtain ⟨x, hx, o⟩ := E.at_ j t h
      exact ⟨x, by rw [List.getElem?_set_ne ne]; exact hx, o⟩
  · rcases set_get h1 with ⟨_, _, e⟩ | ⟨n1, h1⟩
    · cases e
    · rcases set_get h2 with ⟨_, _, e⟩ | ⟨n2, h2⟩
      · cases e
      · exact E.dj j k _ _ _ _ q hjk h1 h2 h3
end
/-- sh: the datum is frozen; b0: it stands at the entry; bo: it stands now -/
inductive Md | sh | b0 | bo
def pk : Md → Hp → Hp → Hp → Hp
  | .sh, F, _, _ => F
  | .b0, _, H0, _ => H0
  | .bo, _, _, H => H
section
variable {F0 H0 F H F' H' : Hp}
theorem pk_mono (m : Md) (g : Gr F H F' H') : Ex (pk m F H0 H) (pk m F' H0 H') := by
  cases m with
  | sh => exact g.ff
  | b0 => exact Ex.refl _
  | bo => exact g.hh
theorem pk_now {m : Md} (g : Gr F0 H0 F H) : Ex (pk m F H0 H) H := by
  cases m with
  | sh => exact g.fh
  | b0 => exact g.hh
  | bo => exact Ex.refl _
end
section
variable (F0 H0 : Hp)
def Ed {α : Type} (t : TE) (G : List Slot) (m : Md) (r : Rp α) (a : α) : Prop := ∀ σ F H, EnvOk F0 H0 G σ F H → ∀ Q : VK, (∀ v F' H', Gr F H F' H' → r (pk m F' H0 H') v a → Q v H') → t σ H Q
def Et (t : TT) (G : List Slot) (b : Bool) : Prop := ∀ σ F H, EnvOk F0 H0 G σ F H → ∀ Q : Bool → Hp → Prop, (∀ F' H', Gr F H F' H' → Q b H') → t σ H Q
def Gk (K : L2.St → Hp → Prop) (G : List Slot) : Prop := ∀ σ F H, EnvOk F0 H0 G σ F H → K σ H
end
abbrev RA (α : Type) := Hp → Hp → Hp → List V → α → Prop
section
variable (F0 H0 : Hp)
def Ea {α : Type} (t : TA) (G : List Slot) (ra : RA α) (a : α) : Prop := ∀ σ F H, EnvOk F0 H0 G σ F H → ∀ Q : List V → Hp → Prop, (∀ vs F' H', Gr F H F' H' → ra F' H0 H' vs a → Q vs H') → t σ H Q
end
/-- the parameters of a def -/
inductive Pt : Type → Type 1
  | nil : Pt Unit
  | cons {α β : Type} (m : Md) (r : Rp α) (i : Mo r) (t : Pt β) : Pt (α × β)
def Pt.ra {α : Type} : Pt α → RA α
  | .nil => fun _ _ _ vs _ => vs = []
  | .cons m r _ t => fun F H0 H vs a => ∃ v us, vs = v :: us ∧ r (pk m F H0 H) v a.1 ∧ t.ra F H0 H us a.2
theorem Pt.mono {α : Type} : ∀ (T : Pt α) {F H F' H' H0 : Hp} {vs : List V} {a : α}, Gr F H F' H' → T.ra F H0 H vs a → T.ra F' H0 H' vs a
  | .nil, _, _, _, _, _, _, _, _, h => h
  | .cons m r i t, _, _, _, _, _, _, _, g, h => by
    obtain ⟨v, us, h1, h2, h3⟩ := h
    exact ⟨v, us, h1, i.ex (pk_mono m g) h2, t.mono g h3⟩
def Pt.count {α : Type} : Pt α → Nat
  | .nil => 0
  | .cons _ _ _ t => t.count + 1
theorem Pt.length {α : Type} : ∀ (T : Pt α) {F H H0 : Hp} {vs : List V} {a : α}, T.ra F H0 H vs a → vs.length = T.count
  | .nil, _, _, _, _, _, h => by rw [show _ = _ from h]; rfl
  | .cons m r i t, _, _, _, _, _, h => by
    obtain ⟨v, us, h1, h2, h3⟩ := h
    rw [h1, List.length_cons, t.length h3]; rfl
/-- what a parameter's slot holds at the entry -/
def pslot {α : Type} (m : Md) (r : Rp α) (i : Mo r) (a : α) : Slot := match m with
  | .sh => .fz r i a
  | _ => .bw r i a
def Pt.slots {α : Type} : Pt α → α → List Slot
  | .nil, _ => []
  | .cons m r i t, a => pslot m r i a.1 :: t.slots a.2
end LK
set_option Elab.async false
set_option linter.all false
set_option maxRecDepth 100000
set_option maxHeartbeats 4000000
set_option autoImplicit false
namespace LK
open PySem L2
theorem plen {α β : Type} {R : α → β → Prop} {xs : List α} {ys : List β} (h : Paired R xs ys) : xs.length = ys.length := h.length
theorem pget {α β : Type} {R : α → β → Prop} : ∀ {xs : List α} {ys : List β} {i : Nat} {y : β}, Paired R xs ys → ys[i]? = some y → ∃ x, xs[i]? = some x ∧ R x y
  | _, _, i, y, .nil, e => by simp at e
  | _, _, 0, y, .cons h _, e => by simp at e; subst e; exact ⟨_, rfl, h⟩
  | _, _, i + 1, y, .cons _ t, e => by
    obtain ⟨x, h1, h2⟩ := pget (i := i) t (by simpa using e)
    exact ⟨x, by simpa using h1, h2⟩
theorem pgetL {α β : Type} {R : α → β → Prop} : ∀ {xs : List α} {ys : List β} {i : Nat} {x : α}, Paired R xs ys → xs[i]? = some x → ∃ y, ys[i]? = some y ∧ R x y
  | _, _, i, y, .nil, e => by simp at e
  | _, _, 0, y, .cons h _, e => by simp at e; subst e; exact ⟨_, rfl, h⟩
  | _, _, i + 1, y, .cons _ t, e => by
    obtain ⟨x, h1, h2⟩ := pgetL (i := i) t (by simpa using e)
    exact ⟨x, by simpa using h1, h2⟩
theorem papp {α β : Type} {R : α → β → Prop} {xs xs' : List α} {ys ys' : List β} (h : Paired R xs ys) (h' : Paired R xs' ys') : Paired R (xs ++ xs') (ys ++ ys') := by
  induction h with
  | nil => exact h'
  | cons a _ ih => exact .cons a ih
theorem ptake {α β : Type} {R : α → β → Prop} : ∀ (n : Nat) {xs : List α} {ys : List β}, Paired R xs ys → Paired R (xs.take n) (ys.take n)
  | 0, _, _, _ => .nil
  | _ + 1, _, _, .nil => .nil
  | n + 1, _, _, .cons a t => .cons a (ptake n t)
theorem pdrop {α β : Type} {R : α → β → Prop} : ∀ (n : Nat) {xs : List α} {ys : List β}, Paired R xs ys → Paired R (xs.drop n) (ys.drop n)
  | 0, _, _, h => h
  | _ + 1, _, _, .nil => .nil
  | n + 1, _, _, .cons _ t => pdrop n t
theorem pset {α β : Type} {R : α → β → Prop} {x : α} {y : β} (r : R x y) : ∀ {xs : List α} {ys : List β} (i : Nat), Paired R xs ys → Paired R (xs.set i x) (ys.set i y)
  | _, _, _, .nil => .nil
  | _, _, 0, .cons _ t => .cons r t
  | _, _, i + 1, .cons q t => .cons q (pset r i t)
theorem perase {α β : Type} {R : α → β → Prop} : ∀ {xs : List α} {ys : List β} (i : Nat), Paired R xs ys → Paired R (xs.eraseIdx i) (ys.eraseIdx i)
  | _, _, _, .nil => .nil
  | _, _, 0, .cons _ t => t
  | _, _, i + 1, .cons q t => .cons q (perase i t)
theorem pdl {α β : Type} {R : α → β → Prop} : ∀ {xs : List α} {ys : List β}, Paired R xs ys → Paired R xs.dropLast ys.dropLast
  | _, _, .nil => .nil
  | _, _, .cons _ .nil => .nil
  | _, _, .cons q (.cons r t) => .cons q (pdl (.cons r t))
theorem sz_le {n : Nat} (h : n ≤ 16777216) : n ≤ sizeLine := by rw [sizeLine_eq]; exact h
theorem sz_lt {n : Nat} (h : n < 16777216) : n < sizeLine := by rw [sizeLine_eq]; exact h
def ixD {α : Type} [Inhabited α] (xs : List α) (i : Int) : α := (atI xs i).getD default
def ixOk (n : Nat) (i : Int) : Prop := -(n : Int) ≤ i ∧ i < n
theorem ixN_some {n : Nat} {i : Int} (h : ixOk n i) : ∃ j, ixN n i = some j ∧ j < n := by
  unfold ixN
  obtain ⟨h1, h2⟩ := h
  by_cases h0 : 0 ≤ i
  · rw [if_pos h0, if_pos h2]; exact ⟨_, rfl, by omega⟩
  · rw [if_neg h0, if_pos h1]; exact ⟨_, rfl, by omega⟩
theorem atI_ok {α : Type} [Inhabited α] {xs : List α} {i : Int} (h : ixOk xs.length i) : atI xs i = some (ixD xs i) := by
  obtain ⟨j, e, hj⟩ := ixN_some h
  unfold ixD atI
  rw [e]
  show xs[j]? = some ((xs[j]?).getD default)
  rw [List.getElem?_eq_getElem hj]; rfl
theorem pat {α β : Type} {R : α → β → Prop} {xs : List α} {ys : List β} {i : Int} {y : β} (p : Paired R xs ys) (h : atI ys i = some y) : ∃ x, atI xs i = some x ∧ R x y := by
  unfold atI at h ⊢
  rw [plen p]
  cases e : ixN ys.length i with
  | none => rw [e] at h; cases h
  | some j => rw [e] at h; exact pget p h
theorem ixD_mem {α : Type} [Inhabited α] {xs : List α} {j : Int} (h : ixOk xs.length j) : ixD xs j ∈ xs := by
  have e := atI_ok h
  unfold atI at e
  cases q : ixN xs.length j with
  | none => rw [q] at e; cases e
  | some n => rw [q] at e; exact List.mem_of_getElem? e
theorem ixD_nat {α : Type} [Inhabited α] (xs : List α) (i : Nat) : ixD xs (i : Int) = xs.getD i default := by
  unfold ixD atI ixN
  rw [if_pos (by omega)]
  by_cases h : (i : Int) < xs.length
  · rw [if_pos h]; simp [List.getD_eq_getElem?_getD]
  · rw [if_neg h]; simp [List.getD_eq_getElem?_getD]; rw [List.getElem?_eq_none (by omega)]; rfl
/-- the part of a list -/
def cutL {α : Type} (xs : List α) (lo hi : Option Int) : List α := (xs.drop (HT.sIx xs.length 0 lo)).take (HT.sIx xs.length xs.length hi - HT.sIx xs.length 0 lo)
theorem pcut {α β : Type} {R : α → β → Prop} {xs : List α} {ys : List β} (lo hi : Option Int) (p : Paired R xs ys) : Paired R (cutL xs lo hi) (cutL ys lo hi) := by
  unfold cutL
  rw [plen p]
  exact ptake _ (pdrop _ p)
theorem cutL_mem {α : Type} {xs : List α} {lo hi : Option Int} {x : α} (h : x ∈ cutL xs lo hi) : x ∈ xs := List.mem_of_mem_drop (List.mem_of_mem_take h)
theorem cutL_le {α : Type} (xs : List α) (lo hi : Option Int) : (cutL xs lo hi).length ≤ xs.length := by
  unfold cutL
  rw [List.length_take, List.length_drop]
  omega
section
variable {F0 H0 : Hp} {G : List Slot} {m m1 m2 : Md} {ta tb tc te : TE} {t u : TT} {K : PySem.W.Frag}
def En {α : Type} (F0 H0 : Hp) (t : TE) (G : List Slot) (r : Rp α) (xs : List α) : Prop := ∀ σ F H, EnvOk F0 H0 G σ F H → ∀ Q : VK, (∀ p vs F' H', Gr F H F' H' → H p = none → F' p = none → H' p = some (.lst vs) → xs.length ≤ 16777216 → Paired (r F') vs xs → Q (.ref p) H') → t σ H Q
theorem Ed.bo {α : Type} {r : Rp α} [Mo r] {a : α} (h : Ed F0 H0 te G m r a) : Ed F0 H0 te G .bo r a := fun σ F H E Q q =>
  h σ F H E Q fun v F' H' g x => q v F' H' g (mox (pk_now (E.gr.trans g)) x)
theorem Ed.fl {α : Type} {r : Rp α} [Fl r] {a : α} (h : Ed F0 H0 te G m1 r a) : Ed F0 H0 te G m r a := fun σ F H E Q q =>
  h σ F H E Q fun v F' H' g x => q v F' H' g (Fl.fl x)
theorem Ed.cast {α : Type} {r : Rp α} {a b : α} (h : Ed F0 H0 te G m r a) (e : a = b) : Ed F0 H0 te G m r b := e ▸ h
theorem Et.cast {a b : Bool} (h : Et F0 H0 t G a) (e : a = b) : Et F0 H0 t G b := e ▸ h
theorem En.cast {α : Type} {r : Rp α} {a b : List α} (h : En F0 H0 te G r a) (e : a = b) : En F0 H0 te G r b := e ▸ h
theorem ed_v {α : Type} {r : Rp α} {im : Mo r} {a : α} {i : Nat} (h : G[i]? = some (.fz r im a)) : Ed F0 H0 (tVar i) G .sh r a := fun σ F H E Q q => by
  obtain ⟨v, hx, ok⟩ := E.fz_at h
  exact ⟨v, hx, q v F H (Gr.refl E.gr.fh) ok⟩
theorem ed_b {α : Type} {r : Rp α} {im : Mo r} {a : α} {i : Nat} (h : G[i]? = some (.bw r im a)) : Ed F0 H0 (tVar i) G .b0 r a := fun σ F H E Q q => by
  obtain ⟨v, hx, ok⟩ := E.bw_at h
  exact ⟨v, hx, q v F H (Gr.refl E.gr.fh) ok⟩
theorem ed_c {α : Type} {r : Rp α} {v : V} {a : α} (h : ∀ F, r F v a) : Ed F0 H0 (tC v) G m r a := fun σ F H E Q q => q v F H (Gr.refl E.gr.fh) (h _)
theorem ed_int {i : Int} : Ed F0 H0 (tC (.int i)) G m rInt i := ed_c fun _ => rfl
theorem ed_bl {b : Bool} : Ed F0 H0 (tC (.bl b)) G m rBl b := ed_c fun _ => rfl
theorem ed_tx {x : Str} {a : List Nat} (h : x = ⟨a.toArray⟩) (hl : a.length ≤ 16777216) (hc : (a.all fun c => decide (c < 1114112)) = true := by decide) : Ed F0 H0 (tC (.str x)) G m rTx a := ed_c fun _ => ⟨by rw [h], hl, fun c h => of_decide_eq_true (List.all_eq_true.mp hc c h)⟩
theorem ed_bin {α β γ : Type} {rx : Rp α} {ry : Rp β} {rz : Rp γ} [Mo rx] {x : α} {y : β} {z : γ} {r : R2} (hx : Ed F0 H0 ta G m1 rx x) (hy : Ed F0 H0 tb G m2 ry y)
    (hr : ∀ v w F H, Gr F0 H0 F H → rx (pk m1 F H0 H) v x → ry (pk m2 F H0 H) w y → ∀ Q : VK, (∀ u F' H', Gr F H F' H' → rz (pk m F' H0 H') u z → Q u H') → r v w H Q) : Ed F0 H0 (tOp r ta tb) G m rz z := fun σ F H E Q q =>
  hx σ F H E _ fun v F1 H1 g1 h1 => hy σ F1 H1 (E.gro g1) _ fun w F2 H2 g2 h2 =>
    hr v w F2 H2 (E.gr.trans (g1.trans g2)) (mox (pk_mono m1 g2) h1) h2 Q fun u F3 H3 g3 h3 => q u F3 H3 ((g1.trans g2).trans g3) h3
theorem en_bin {α β γ : Type} {rx : Rp α} {ry : Rp β} {rz : Rp γ} [Mo rx] {x : α} {y : β} {z : List γ} {r : R2} (hx : Ed F0 H0 ta G m1 rx x) (hy : Ed F0 H0 tb G m2 ry y)
    (hr : ∀ v w F H, Gr F0 H0 F H → rx (pk m1 F H0 H) v x → ry (pk m2 F H0 H) w y → ∀ Q : VK, (∀ p vs F' H', Gr F H F' H' → H p = none → F' p = none → H' p = some (.lst vs) → z.length ≤ 16777216 → Paired (rz F') vs z → Q (.ref p) H') → r v w H Q) : En F0 H0 (tOp r ta tb) G rz z := fun σ F H E Q q =>
  hx σ F H E _ fun v F1 H1 g1 h1 => hy σ F1 H1 (E.gro g1) _ fun w F2 H2 g2 h2 =>
    hr v w F2 H2 (E.gr.trans (g1.trans g2)) (mox (pk_mono m1 g2) h1) h2 Q fun p vs F3 H3 g3 h3 h4 h5 h6 h7 => q p vs F3 H3 ((g1.trans g2).trans g3) ((g1.trans g2).hh.back h3) h4 h5 h6 h7
theorem ed_un {α β : Type} {rx : Rp α} {rz : Rp β} {x : α} {z : β} {r : V → Hp → VK → Prop} (hx : Ed F0 H0 ta G m1 rx x)
    (hr : ∀ v F H, Gr F0 H0 F H → rx (pk m1 F H0 H) v x → ∀ Q : VK, (∀ u F' H', Gr F H F' H' → rz (pk m F' H0 H') u z → Q u H') → r v H Q) : Ed F0 H0 (fun σ H Q => ta σ H fun x H1 => r x H1 Q) G m rz z := fun σ F H E Q q =>
  hx σ F H E _ fun v F1 H1 g1 h1 => hr v F1 H1 (E.gr.trans g1) h1 Q fun u F3 H3 g3 h3 => q u F3 H3 (g1.trans g3) h3
theorem ed_iop {γ : Type} {rz : Rp γ} {g : Int → Int → V} {x y : Int} {z : γ} (hx : Ed F0 H0 ta G m1 rInt x) (hy : Ed F0 H0 tb G m2 rInt y) (hz : ∀ F, rz F (g x y) z) : Ed F0 H0 (tOp (rI0 g) ta tb) G m rz z :=
  ed_bin hx hy fun v w F H g0 hv hw Q q => ⟨x, y, hv, hw, q _ F H (Gr.refl g0.fh) (hz _)⟩
theorem ed_iopC {γ : Type} {rz : Rp γ} {C : Int → Int → Prop} {g : Int → Int → V} {x y : Int} {z : γ} (hx : Ed F0 H0 ta G m1 rInt x) (hy : Ed F0 H0 tb G m2 rInt y) (hc : C x y) (hz : ∀ F, rz F (g x y) z) : Ed F0 H0 (tOp (rI C g) ta tb) G m rz z :=
  ed_bin hx hy fun v w F H g0 hv hw Q q => ⟨x, y, hv, hw, hc, q _ F H (Gr.refl g0.fh) (hz _)⟩
theorem ed_add {x y : Int} (hx : Ed F0 H0 ta G m1 rInt x) (hy : Ed F0 H0 tb G m2 rInt y) : Ed F0 H0 (tOp (rI0 fun i j => .int (i + j)) ta tb) G m rInt (x + y) := ed_iop hx hy fun _ => rfl
theorem ed_sub {x y : Int} (hx : Ed F0 H0 ta G m1 rInt x) (hy : Ed F0 H0 tb G m2 rInt y) : Ed F0 H0 (tOp (rI0 fun i j => .int (i - j)) ta tb) G m rInt (x - y) := ed_iop hx hy fun _ => rfl
theorem ed_mul {x y : Int} (hx : Ed F0 H0 ta G m1 rInt x) (hy : Ed F0 H0 tb G m2 rInt y) (hc : (-18446744073709551616 < x ∧ x < 18446744073709551616) ∨ (-18446744073709551616 < y ∧ y < 18446744073709551616)) : Ed F0 H0 (tOp (rI CMul fun i j => .int (i * j)) ta tb) G m rInt (x * y) := ed_iopC hx hy hc fun _ => rfl
theorem ed_mod {x y : Int} (hx : Ed F0 H0 ta G m1 rInt x) (hy : Ed F0 H0 tb G m2 rInt y) (hc : 0 < y) : Ed F0 H0 (tOp (rI (fun _ j => 0 < j) fun i j => .int (i % j)) ta tb) G m rInt (x % y) := ed_iopC hx hy hc fun _ => rfl
theorem ed_div {x y : Int} (hx : Ed F0 H0 ta G m1 rInt x) (hy : Ed F0 H0 tb G m2 rInt y) (hc : 0 < y ∧ y < 1073741824) : Ed F0 H0 (tOp (rI CDiv fun i j => .int (i / j)) ta tb) G m rInt (x / y) := ed_iopC hx hy hc fun _ => rfl
theorem ed_pow {x y : Int} (hx : Ed F0 H0 ta G m1 rInt x) (hy : Ed F0 H0 tb G m2 rInt y) (hc : 0 ≤ y ∧ y ≤ 1000000 ∧ x.natAbs < 18446744073709551616) : Ed F0 H0 (tOp (rI CPow fun i j => .int (i ^ j.toNat)) ta tb) G m rInt (x ^ y.toNat) := ed_iopC hx hy hc fun _ => rfl
theorem ed_lt {x y : Int} (hx : Ed F0 H0 ta G m1 rInt x) (hy : Ed F0 H0 tb G m2 rInt y) : Ed F0 H0 (tOp (rI0 fun i j => .bl (decide (i < j))) ta tb) G m rBl (decide (x < y)) := ed_iop hx hy fun _ => rfl
theorem ed_gt {x y : Int} (hx : Ed F0 H0 ta G m1 rInt x) (hy : Ed F0 H0 tb G m2 rInt y) : Ed F0 H0 (tOp (rI0 fun i j => .bl (decide (j < i))) ta tb) G m rBl (decide (y < x)) := ed_iop hx hy fun _ => rfl
theorem ed_ge {x y : Int} (hx : Ed F0 H0 ta G m1 rInt x) (hy : Ed F0 H0 tb G m2 rInt y) : Ed F0 H0 (tOp (rI0 fun i j => .bl (decide (j ≤ i))) ta tb) G m rBl (decide (y ≤ x)) := ed_iop hx hy fun _ => rfl
/-- what == compares by value -/
class Sc {α : Type} (r : Rp α) : Prop where
  sc : ∀ {F F' : Hp} {v w : V} {a b : α}, r F v a → r F' w b → scal v w = true ∧ (v = w ↔ a = b)
instance : Sc rInt := ⟨fun {F F' v w a b} h h' => by rw [show v = _ from h, show w = _ from h']; exact ⟨rfl, by simp⟩⟩
instance : Sc rBl := ⟨fun {F F' v w a b} h h' => by rw [show v = _ from h, show w = _ from h']; exact ⟨rfl, by simp⟩⟩
instance : Sc rTx := ⟨fun {F F' v w a b} h h' => by rw [h.1, h'.1]; exact ⟨rfl, by simp⟩⟩
theorem ed_eq {α : Type} {r : Rp α} [DecidableEq α] [Mo r] [Sc r] {x y : α} (hx : Ed F0 H0 ta G m1 r x) (hy : Ed F0 H0 tb G m2 r y) : Ed F0 H0 (tOp rEq ta tb) G m rBl (decide (x = y)) :=
  ed_bin hx hy fun v w F H g0 hv hw Q q => by
    obtain ⟨h1, h2⟩ := Sc.sc hv hw
    exact ⟨h1, q _ F H (Gr.refl g0.fh) (by show V.bl _ = V.bl _; rw [decide_eq_decide.mpr h2])⟩
theorem ed_ne {α : Type} {r : Rp α} [DecidableEq α] [Mo r] [Sc r] {x y : α} (hx : Ed F0 H0 ta G m1 r x) (hy : Ed F0 H0 tb G m2 r y) : Ed F0 H0 (tOp rNe ta tb) G m rBl (!decide (x = y)) :=
  ed_bin hx hy fun v w F H g0 hv hw Q q => by
    obtain ⟨h1, h2⟩ := Sc.sc hv hw
    exact ⟨h1, q _ F H (Gr.refl g0.fh) (by show V.bl _ = V.bl _; rw [decide_eq_decide.mpr h2])⟩
abbrev rCatS : R2 := fun x y H Q => ∃ i j, x = .str i ∧ y = .str j ∧ i.length + j.length ≤ sizeLine ∧ Q (.str (i ++ j)) H
theorem tx_cat (a b : List Nat) : (⟨a.toArray⟩ : Str) ++ (⟨b.toArray⟩ : Str) = ⟨(a ++ b).toArray⟩ := by
  show Str.mk (a.toArray ++ b.toArray) = _
  simp
theorem tx_len (a : List Nat) : (⟨a.toArray⟩ : Str).length = a.length := by simp [Str.length]
theorem ed_cat {x y : List Nat} (hx : Ed F0 H0 ta G m1 rTx x) (hy : Ed F0 H0 tb G m2 rTx y) (hl : x.length + y.length ≤ 16777216) : Ed F0 H0 (tOp rCatS ta tb) G m rTx (x ++ y) :=
  ed_bin hx hy fun v w F H g0 hv hw Q q => ⟨_, _, hv.1, hw.1, by rw [tx_len, tx_len]; exact sz_le hl, q _ F H (Gr.refl g0.fh) ⟨by rw [tx_cat], by rw [List.length_append]; exact hl, fun c hc => (List.mem_append.mp hc).elim (hv.2.2 c) (hw.2.2 c)⟩⟩
theorem ed_ixT {x : List Nat} {i : Int} (hx : Ed F0 H0 ta G m1 rTx x) (hy : Ed F0 H0 tb G m2 rInt i) (hi : ixOk x.length i) : Ed F0 H0 (tOp rIxS ta tb) G m rTx [ixD x i] :=
  ed_bin hx hy fun v w F H g0 hv hw Q q => ⟨_, i, ixD x i, hv.1, hw, by rw [tx_len]; exact sz_le hv.2.1, by simpa using atI_ok hi, q _ F H (Gr.refl g0.fh) ⟨rfl, by simp, fun c hc => by rw [List.mem_singleton.mp hc]; exact hv.2.2 _ (ixD_mem hi)⟩⟩
abbrev rInC : R2 := fun x y H Q => ∃ (c : Nat) (z : Str), x = .str ⟨#[c]⟩ ∧ y = .str z ∧ Q (.bl (decide (c ∈ z.cps.toList))) H
abbrev rNotInC : R2 := fun x y H Q => ∃ (c : Nat) (z : Str), x = .str ⟨#[c]⟩ ∧ y = .str z ∧ Q (.bl (!decide (c ∈ z.cps.toList))) H
theorem ed_inT {c : Nat} {y : List Nat} (hx : Ed F0 H0 ta G m1 rTx [c]) (hy : Ed F0 H0 tb G m2 rTx y) : Ed F0 H0 (tOp rInC ta tb) G m rBl (decide (c ∈ y)) :=
  ed_bin hx hy fun v w F H g0 hv hw Q q => ⟨c, _, hv.1, hw.1, q _ F H (Gr.refl g0.fh) (by simp [rBl])⟩
theorem ed_niT {c : Nat} {y : List Nat} (hx : Ed F0 H0 ta G m1 rTx [c]) (hy : Ed F0 H0 tb G m2 rTx y) : Ed F0 H0 (tOp rNotInC ta tb) G m rBl (!decide (c ∈ y)) :=
  ed_bin hx hy fun v w F H g0 hv hw Q q => ⟨c, _, hv.1, hw.1, q _ F H (Gr.refl g0.fh) (by simp [rBl])⟩
theorem ed_ixL {α : Type} {r : Rp α} [Mo r] [Inhabited α] {xs : List α} {i : Int} (hx : Ed F0 H0 ta G m (rLst r) xs) (hy : Ed F0 H0 tb G m2 rInt i) (hi : ixOk xs.length i) : Ed F0 H0 (tOp (rIxL K) ta tb) G m r (ixD xs i) :=
  ed_bin hx hy fun v w F H g0 hv hw Q q => by
    obtain ⟨p, vs, rfl, h1, h2, h3⟩ := hv
    obtain ⟨x, e, rx⟩ := pat h3 (atI_ok hi)
    exact ⟨p, vs, i, x, rfl, hw, SqL.of (pk_now g0 _ _ h1), e, q _ F H (Gr.refl g0.fh) rx⟩
theorem ed_c1 {α β : Type} {rx : Rp α} {rz : Rp β} {x : α} {z : β} {r : List V → Hp → VK → Prop} (hx : Ed F0 H0 ta G m1 rx x)
    (hr : ∀ v F H, Gr F0 H0 F H → rx (pk m1 F H0 H) v x → ∀ Q : VK, (∀ u F' H', Gr F H F' H' → rz (pk m F' H0 H') u z → Q u H') → r [v] H Q) : Ed F0 H0 (tCB r (tCons ta tNil)) G m rz z := fun σ F H E Q q =>
  hx σ F H E _ fun v F1 H1 g1 h1 => hr v F1 H1 (E.gr.trans g1) h1 Q fun u F3 H3 g3 h3 => q u F3 H3 (g1.trans g3) h3
theorem en_c1 {α β : Type} {rx : Rp α} {rz : Rp β} {x : α} {z : List β} {r : List V → Hp → VK → Prop} (hx : Ed F0 H0 ta G m1 rx x)
    (hr : ∀ v F H, Gr F0 H0 F H → rx (pk m1 F H0 H) v x → ∀ Q : VK, (∀ p vs F' H', Gr F H F' H' → H p = none → F' p = none → H' p = some (.lst vs) → z.length ≤ 16777216 → Paired (rz F') vs z → Q (.ref p) H') → r [v] H Q) : En F0 H0 (tCB r (tCons ta tNil)) G rz z := fun σ F H E Q q =>
  hx σ F H E _ fun v F1 H1 g1 h1 => hr v F1 H1 (E.gr.trans g1) h1 Q fun p vs F3 H3 g3 h3 h4 h5 h6 h7 => q p vs F3 H3 (g1.trans g3) (g1.hh.back h3) h4 h5 h6 h7
abbrev rLenQ (K : PySem.W.Frag) : List V → Hp → VK → Prop := fun xs H Q => ∃ p ys, xs = [.ref p] ∧ (SqL K H p ys ∨ SqT K H p ys) ∧ Q (.int ys.length) H
abbrev rLenT : List V → Hp → VK → Prop := fun xs H Q => ∃ z, xs = [.str z] ∧ z.length ≤ sizeLine ∧ Q (.int z.length) H
theorem ed_lenL {α : Type} {r : Rp α} {xs : List α} (hx : Ed F0 H0 ta G m1 (rLst r) xs) : Ed F0 H0 (tCB (rLenQ K) (tCons ta tNil)) G m rInt (xs.length : Int) :=
  ed_c1 hx fun v F H g0 hv Q q => by
    obtain ⟨p, vs, rfl, h1, h2, h3⟩ := hv
    exact ⟨p, vs, rfl, .inl (SqL.of (pk_now g0 _ _ h1)), q _ F H (Gr.refl g0.fh) (by rw [plen h3]; rfl)⟩
theorem ed_lenU {α : Type} {r : Rp α} {xs : List α} (hx : Ed F0 H0 ta G m1 (rTup r) xs) : Ed F0 H0 (tCB (rLenQ K) (tCons ta tNil)) G m rInt (xs.length : Int) :=
  ed_c1 hx fun v F H g0 hv Q q => by
    obtain ⟨p, vs, rfl, h1, h2, h3⟩ := hv
    exact ⟨p, vs, rfl, .inr (SqT.of (pk_now g0 _ _ h1)), q _ F H (Gr.refl g0.fh) (by rw [plen h3]; rfl)⟩
theorem ed_lenT {x : List Nat} (hx : Ed F0 H0 ta G m1 rTx x) : Ed F0 H0 (tCB rLenT (tCons ta tNil)) G m rInt (x.length : Int) :=
  ed_c1 hx fun v F H g0 hv Q q => ⟨⟨x.toArray⟩, by rw [hv.1], by rw [tx_len]; exact sz_le hv.2.1, q _ F H (Gr.refl g0.fh) (by rw [tx_len]; rfl)⟩
class Ft {α : Type} (r : Rp α) : Prop where
  ft : ∀ {F : Hp} {v : V} {a : α}, r F v a → flatV v = true
  eq : ∀ {F F' : Hp} {v w : V} {a b : α}, r F v a → r F' w b → (eqV v w = true ↔ a = b)
instance : Ft rInt := ⟨fun {F v a} h => by rw [show v = _ from h]; rfl, fun {F F' v w a b} h h' => by rw [show v = _ from h, show w = _ from h']; simp [eqV]⟩
instance : Ft rTx := ⟨fun {F v a} h => by rw [h.1]; rfl, fun {F F' v w a b} h h' => by rw [h.1, h'.1]; simp [eqV]⟩
theorem et_B {b : Bool} (h : Ed F0 H0 te G m rBl b) : Et F0 H0 (tB te) G b := fun σ F H E Q q => h σ F H E _ fun v F' H' g hv => ⟨b, hv, q F' H' g⟩
theorem et_T {b : Bool} (h : Ed F0 H0 te G m rBl b) : Et F0 H0 (tTest te) G b := fun σ F H E Q q => h σ F H E _ fun v F' H' g hv => ⟨b, hv, q F' H' g⟩
theorem et_and {a b : Bool} (h1 : Et F0 H0 t G a) (h2 : a = true → Et F0 H0 u G b) : Et F0 H0 (tAnd t u) G (a && b) := fun σ F H E Q q => h1 σ F H E _ fun F1 H1 g1 => by
  cases a with
  | true => exact h2 rfl σ F1 H1 (E.gro g1) Q fun F2 H2 g2 => q F2 H2 (g1.trans g2)
  | false => exact q F1 H1 g1
theorem et_not {a : Bool} (h1 : Et F0 H0 t G a) : Et F0 H0 (tNot t) G (!a) := fun σ F H E Q q => h1 σ F H E _ fun F1 H1 g1 => q F1 H1 g1
theorem ed_andV {a b : Bool} (h1 : Ed F0 H0 ta G m1 rBl a) (h2 : a = true → Ed F0 H0 tb G m2 rBl b) : Ed F0 H0 (tAndV ta tb) G m rBl (a && b) := fun σ F H E Q q => h1 σ F H E _ fun v F1 H1 g1 hv => ⟨a, hv, by
  cases a with
  | true => exact h2 rfl σ F1 H1 (E.gro g1) Q fun w F2 H2 g2 hw => q w F2 H2 (g1.trans g2) hw
  | false => exact q _ F1 H1 g1 rfl⟩
theorem ed_notV {a : Bool} (h1 : Ed F0 H0 ta G m1 rBl a) : Ed F0 H0 (tNotV ta) G m rBl (!a) := fun σ F H E Q q => h1 σ F H E _ fun v F1 H1 g1 hv => ⟨a, hv, q _ F1 H1 g1 rfl⟩
theorem ea_nil : Ea F0 H0 tNil G Pt.nil.ra () := fun σ F H E Q q => q [] F H (Gr.refl E.gr.fh) rfl
theorem ea_cons {α β : Type} {r : Rp α} [im : Mo r] {T : Pt β} {tr : TA} {a : α} {b : β} (h : Ed F0 H0 ta G m r a) (hr : Ea F0 H0 tr G T.ra b) : Ea F0 H0 (tCons ta tr) G (Pt.cons m r im T).ra (a, b) := fun σ F H E Q q =>
  h σ F H E _ fun v F1 H1 g1 h1 => hr σ F1 H1 (E.gro g1) _ fun vs F2 H2 g2 h2 => q _ F2 H2 (g1.trans g2) ⟨v, vs, rfl, im.ex (pk_mono m g2) h1, h2⟩
def El {α : Type} (F0 H0 : Hp) (t : TA) (G : List Slot) (r : Rp α) (xs : List α) : Prop := ∀ σ F H, EnvOk F0 H0 G σ F H → ∀ Q : List V → Hp → Prop, (∀ vs F' H', Gr F H F' H' → Paired (r F') vs xs → Q vs H') → t σ H Q
theorem el_nil {α : Type} {r : Rp α} : El F0 H0 tNil G r [] := fun σ F H E Q q => q [] F H (Gr.refl E.gr.fh) .nil
theorem el_cons {α : Type} {r : Rp α} [Mo r] {tr : TA} {a : α} {xs : List α} (h : Ed F0 H0 ta G .sh r a) (hr : El F0 H0 tr G r xs) : El F0 H0 (tCons ta tr) G r (a :: xs) := fun σ F H E Q q =>
  h σ F H E _ fun v F1 H1 g1 h1 => hr σ F1 H1 (E.gro g1) _ fun vs F2 H2 g2 h2 => q _ F2 H2 (g1.trans g2) (.cons (mox g2.ff h1) h2)
theorem en_lst {α : Type} {r : Rp α} [Mo r] {ts : TA} {xs : List α} (h : El F0 H0 ts G r xs) (hl : xs.length ≤ 16777216) : En F0 H0 (tLst ts) G r xs := fun σ F H E Q q =>
  h σ F H E _ fun vs F1 H1 g1 h1 => ⟨by rw [plen h1]; exact sz_le hl, fun p hp => q p vs F1 _ (g1.trans (Gr.wild g1.fh hp)) (g1.hh.back hp) (g1.fh.back hp) upd_same hl h1⟩
theorem ed_tup {α : Type} {r : Rp α} [Mo r] {ts : TA} {xs : List α} (h : El F0 H0 ts G r xs) (hl : xs.length ≤ 16777216) : Ed F0 H0 (tTup ts) G .sh (rTup r) xs := fun σ F H E Q q =>
  h σ F H E _ fun vs F1 H1 g1 h1 => ⟨by rw [plen h1]; exact sz_le hl, fun p hp => q _ _ _ (g1.trans (Gr.new g1.fh hp)) ⟨p, vs, rfl, upd_same, hl, pmap (fun _ _ z => mox (Ex.new (g1.fh.back hp)) z) h1⟩⟩
theorem ed_pr {α β : Type} {r : Rp α} {s : Rp β} [Mo r] [Mo s] {a : α} {b : β} (h : Ed F0 H0 ta G .sh r a) (h' : Ed F0 H0 tb G .sh s b) : Ed F0 H0 (tTup (tCons ta (tCons tb tNil))) G .sh (rPr r s) (a, b) := fun σ F H E Q q =>
  h σ F H E _ fun v F1 H1 g1 h1 => h' σ F1 H1 (E.gro g1) _ fun w F2 H2 g2 h2 => ⟨sz_le (by show 2 ≤ 16777216; decide), fun p hp => by
    have n := Ex.new (o := .tup [v, w]) (g2.fh.back hp)
    exact q _ _ _ ((g1.trans g2).trans (Gr.new g2.fh hp)) ⟨p, v, w, rfl, upd_same, mox (g2.ff.trans n) h1, mox n h2⟩⟩
abbrev rListQ (K : PySem.W.Frag) : List V → Hp → VK → Prop := fun xs H Q => ∃ p ys, xs = [.ref p] ∧ (SqL K H p ys ∨ SqT K H p ys) ∧ ∀ l, H l = none → Q (.ref l) (upd H l (.lst ys))
abbrev rTupleQ (K : PySem.W.Frag) : List V → Hp → VK → Prop := fun xs H Q => ∃ p ys, xs = [.ref p] ∧ ((SqL K H p ys ∧ ∀ l, H l = none → Q (.ref l) (upd H l (.tup ys))) ∨ (SqT K H p ys ∧ Q (.ref p) H))
/-- what may be kept: frozen, or flat -/
class Kp {α : Type} (m : Md) (r : Rp α) : Prop where
  kp : ∀ {F0 H0 F H : Hp} {v : V} {a : α}, Gr F0 H0 F H → r (pk m F H0 H) v a → r F v a
instance {α : Type} (r : Rp α) : Kp .sh r := ⟨fun _ h => h⟩
instance {α : Type} (m : Md) (r : Rp α) [Fl r] : Kp m r := ⟨fun _ h => Fl.fl h⟩
theorem en_list {α : Type} {r : Rp α} [Mo r] [Kp m1 r] {xs : List α} (hx : Ed F0 H0 ta G m1 (rLst r) xs) : En F0 H0 (tCB (rListQ K) (tCons ta tNil)) G r xs :=
  en_c1 hx fun v F H g0 hv Q q => by
    obtain ⟨p, vs, rfl, h1, h2, h3⟩ := hv
    exact ⟨p, vs, rfl, .inl (SqL.of (pk_now g0 _ _ h1)), fun l hl => q l vs F _ (Gr.wild g0.fh hl) hl (g0.fh.back hl) upd_same h2 (pmap (fun _ _ z => Kp.kp g0 z) h3)⟩
theorem ed_tupL {α : Type} {r : Rp α} [Mo r] [Kp m1 r] {xs : List α} (hx : Ed F0 H0 ta G m1 (rLst r) xs) : Ed F0 H0 (tCB (rTupleQ K) (tCons ta tNil)) G .sh (rTup r) xs :=
  ed_c1 hx fun v F H g0 hv Q q => by
    obtain ⟨p, vs, rfl, h1, h2, h3⟩ := hv
    exact ⟨p, vs, rfl, .inl ⟨SqL.of (pk_now g0 _ _ h1), fun l hl => q _ _ _ (Gr.new g0.fh hl) ⟨l, vs, rfl, upd_same, h2, pmap (fun _ _ z => mox (Ex.new (g0.fh.back hl)) (Kp.kp (r := r) g0 z)) h3⟩⟩⟩
theorem en_catL {α : Type} {r : Rp α} [Mo r] [Kp m1 r] [Kp m2 r] {xs ys : List α} (hx : Ed F0 H0 ta G m1 (rLst r) xs) (hy : Ed F0 H0 tb G m2 (rLst r) ys) (hl : xs.length + ys.length ≤ 16777216) : En F0 H0 (tOp rCat ta tb) G r (xs ++ ys) :=
  en_bin hx hy fun v w F H g0 hv hw Q q => by
    obtain ⟨p, vs, rfl, h1, h2, h3⟩ := hv
    obtain ⟨p', vs', rfl, h1', h2', h3'⟩ := hw
    exact ⟨p, p', vs, vs', rfl, rfl, pk_now g0 _ _ h1, pk_now g0 _ _ h1', by rw [plen h3, plen h3']; exact sz_le hl, fun l hl' => q l _ F _ (Gr.wild g0.fh hl') hl' (g0.fh.back hl') upd_same (by rw [List.length_append]; exact hl) (papp (pmap (fun _ _ z => Kp.kp g0 z) h3) (pmap (fun _ _ z => Kp.kp g0 z) h3'))⟩
def Eo (F0 H0 : Hp) (t : TO) (G : List Slot) (o : Option Int) : Prop := ∀ σ F H, EnvOk F0 H0 G σ F H → ∀ Q : Option Int → Hp → Prop, (∀ F' H', Gr F H F' H' → Q o H') → t σ H Q
theorem eo_none : Eo F0 H0 tNoPart G none := fun σ F H E Q q => q F H (Gr.refl E.gr.fh)
theorem eo_some {i : Int} (h : Ed F0 H0 te G m rInt i) : Eo F0 H0 (tPart te) G (some i) := fun σ F H E Q q => h σ F H E _ fun v F' H' g hv => ⟨i, hv, q F' H' g⟩
theorem ed_sl {α γ : Type} {rx : Rp α} {rz : Rp γ} [Mo rx] {x : α} {z : γ} {lo hi : Option Int} {tl th : TO} {r : V → Option Int → Option Int → Hp → VK → Prop} (hx : Ed F0 H0 ta G m1 rx x) (hl : Eo F0 H0 tl G lo) (hh : Eo F0 H0 th G hi)
    (hr : ∀ v F H, Gr F0 H0 F H → rx (pk m1 F H0 H) v x → ∀ Q : VK, (∀ u F' H', Gr F H F' H' → rz (pk m F' H0 H') u z → Q u H') → r v lo hi H Q) : Ed F0 H0 (tSl r ta tl th) G m rz z := fun σ F H E Q q =>
  hx σ F H E _ fun v F1 H1 g1 h1 => hl σ F1 H1 (E.gro g1) _ fun F2 H2 g2 => hh σ F2 H2 ((E.gro g1).gro g2) _ fun F3 H3 g3 =>
    hr v F3 H3 (E.gr.trans ((g1.trans g2).trans g3)) (mox (pk_mono m1 (g2.trans g3)) h1) Q fun u F4 H4 g4 h4 => q u F4 H4 (((g1.trans g2).trans g3).trans g4) h4
theorem ed_slT {x : List Nat} {lo hi : Option Int} {tl th : TO} (hx : Ed F0 H0 ta G m1 rTx x) (hl : Eo F0 H0 tl G lo) (hh : Eo F0 H0 th G hi) : Ed F0 H0 (tSl rSlS ta tl th) G m rTx (cutL x lo hi) :=
  ed_sl hx hl hh fun v F H g0 hv Q q => ⟨_, hv.1, by rw [tx_len]; exact sz_le hv.2.1, q _ F H (Gr.refl g0.fh) ⟨by unfold cutS cutL; rw [tx_len], Nat.le_trans (cutL_le _ _ _) hv.2.1, fun c hc => hv.2.2 c (cutL_mem hc)⟩⟩
theorem en_slL {α : Type} {r : Rp α} [Mo r] [Kp m1 r] {xs : List α} {lo hi : Option Int} {tl th : TO} (hx : Ed F0 H0 ta G m1 (rLst r) xs) (hl : Eo F0 H0 tl G lo) (hh : Eo F0 H0 th G hi) : En F0 H0 (tSl (rSlL K) ta tl th) G r (cutL xs lo hi) := fun σ F H E Q q =>
  hx σ F H E _ fun v F1 H1 g1 h1 => hl σ F1 H1 (E.gro g1) _ fun F2 H2 g2 => hh σ F2 H2 ((E.gro g1).gro g2) _ fun F3 H3 g3 => by
    have g := (g1.trans g2).trans g3
    have g0 := E.gr.trans g
    obtain ⟨p, vs, rfl, e1, e2, e3⟩ := mox (r := rLst r) (pk_mono m1 (g2.trans g3)) h1
    exact ⟨p, vs, rfl, SqL.of (pk_now g0 _ _ e1), fun l hl' => q l _ F3 _ (g.trans (Gr.wild g.fh hl')) (g.hh.back hl') (g.fh.back hl') upd_same (Nat.le_trans (cutL_le _ _ _) e2) (pcut lo hi (pmap (fun _ _ z => Kp.kp g0 z) e3))⟩
/-- all, any of a list of bools -/
theorem pbl {F : Hp} : ∀ {vs : List V} {bs : List Bool}, Paired (rBl F) vs bs → vs = bs.map V.bl
  | _, _, .nil => rfl
  | _, _, .cons h t => by rw [List.map_cons, ← pbl t, show _ = _ from h]
theorem ed_all {bs : List Bool} (hx : Ed F0 H0 ta G m1 (rLst rBl) bs) : Ed F0 H0 (tCB (rAll K) (tCons ta tNil)) G m rBl (bs.all id) :=
  ed_c1 hx fun v F H g0 hv Q q => by
    obtain ⟨p, vs, rfl, h1, h2, h3⟩ := hv
    exact ⟨p, bs, rfl, by rw [← pbl h3]; exact SqL.of (pk_now g0 _ _ h1), q _ F H (Gr.refl g0.fh) rfl⟩
/-- int(n), int(flag), str of a digit, int of a digit -/
abbrev rInt1 : List V → Hp → VK → Prop := fun xs H Q => (∃ i, xs = [.int i] ∧ Q (.int i) H) ∨ ∃ k, xs = [.bl k] ∧ Q (.int (if k then 1 else 0)) H
theorem ed_intI {i : Int} (hx : Ed F0 H0 ta G m1 rInt i) : Ed F0 H0 (tCB rInt1 (tCons ta tNil)) G m rInt i := ed_c1 hx fun v F H g0 hv Q q => .inl ⟨i, by rw [show v = _ from hv], q _ F H (Gr.refl g0.fh) rfl⟩
theorem ed_intB {b : Bool} (hx : Ed F0 H0 ta G m1 rBl b) : Ed F0 H0 (tCB rInt1 (tCons ta tNil)) G m rInt (if b then 1 else 0) := ed_c1 hx fun v F H g0 hv Q q => .inr ⟨b, by rw [show v = _ from hv], q _ F H (Gr.refl g0.fh) rfl⟩
end
end LK
set_option Elab.async false
set_option linter.all false
set_option maxRecDepth 100000
set_option maxHeartbeats 4000000
set_option autoImplicit false
namespace LK
open PySem L2
def wipeG (G : List Slot) : List Nat → List Slot
  | [] => G
  | v :: vs => (wipeG G vs).set v .no
theorem wipe_set_ne {σ : L2.St} {j : Nat} {x : Option V} : ∀ {vs : List Nat}, j ∉ vs → wipe (σ.set j x) vs = (wipe σ vs).set j x
  | [], _ => rfl
  | v :: vs, h => by
    have h1 : j ≠ v := fun e => h (by rw [e]; exact List.mem_cons_self)
    have h2 : j ∉ vs := fun m => h (List.mem_cons_of_mem _ m)
    show (wipe (σ.set j x) vs).set v none = ((wipe σ vs).set v none).set j x
    rw [wipe_set_ne h2, List.set_comm _ _ h1]
theorem wipe_set {σ : L2.St} {j : Nat} {x : Option V} : ∀ {vs : List Nat}, j ∈ vs → wipe (σ.set j x) vs = wipe σ vs
  | v :: vs, h => by
    show (wipe (σ.set j x) vs).set v none = (wipe σ vs).set v none
    by_cases h2 : j ∈ vs
    · rw [wipe_set h2]
    · have e : j = v := (List.mem_cons.mp h).resolve_right h2
      subst e
      rw [wipe_set_ne h2, List.set_set]
theorem wipe_wipe {σ : L2.St} {vs : List Nat} : ∀ {us : List Nat}, (∀ j ∈ us, j ∈ vs) → wipe (wipe σ us) vs = wipe σ vs
  | [], _ => rfl
  | u :: us, h => by
    show wipe ((wipe σ us).set u none) vs = wipe σ vs
    rw [wipe_set (h u List.mem_cons_self)]
    exact wipe_wipe fun j hj => h j (List.mem_cons_of_mem _ hj)
theorem EnvOk.wipeA {F0 H0 F H : Hp} {G : List Slot} {σ : L2.St} (E : EnvOk F0 H0 G σ F H) : ∀ vs, EnvOk F0 H0 (wipeG G vs) (L2.wipe σ vs) F H
  | [] => E
  | _ :: vs => (EnvOk.wipeA E vs).wipe
/-- F1 may stand for F0 -/
def Bs (F0 H0 F1 : Hp) : Prop := Ex F0 F1 ∧ ∀ p o, F1 p = some o → F0 p = none → H0 p = none ∨ isT o = true
theorem Bs.refl (F0 H0 : Hp) : Bs F0 H0 F0 := ⟨Ex.refl _, fun p o h1 h2 => by rw [h1] at h2; cases h2⟩
theorem Bs.trans {F0 H0 F1 F2 : Hp} (a : Bs F0 H0 F1) (b : Bs F1 H0 F2) : Bs F0 H0 F2 := ⟨a.1.trans b.1, fun p o h1 h2 => by
  cases e : F1 p with
  | none => exact b.2 p o h1 e
  | some u =>
    have z := b.1 p u e
    rw [h1] at z; cases z
    exact a.2 p o e h2⟩
section
variable {F0 H0 F1 F H : Hp} {G : List Slot} {σ : L2.St}
theorem Gr.bs (g : Gr F0 H0 F H) : Bs F0 H0 F := ⟨g.ff, g.nw⟩
theorem Gr.down (b : Bs F0 H0 F1) (g : Gr F1 H0 F H) : Gr F0 H0 F H := ⟨b.1.trans g.ff, g.fh, g.hh, fun p o h1 h2 => (b.trans g.bs).2 p o h1 h2⟩
theorem EnvOk.down (b : Bs F0 H0 F1) (E : EnvOk F1 H0 G σ F H) : EnvOk F0 H0 G σ F H := let ⟨fp, e⟩ := E; ⟨fp, e.gr.down b, e.len, e.at_, e.dj⟩
/-- from here on -/
theorem EnvOk.here (E : EnvOk F0 H0 G σ F H) : EnvOk F H0 G σ F H := let ⟨fp, e⟩ := E; ⟨fp, ⟨Ex.refl F, e.gr.fh, e.gr.hh, fun p o h1 h2 => by rw [h1] at h2; cases h2⟩, e.len, e.at_, e.dj⟩
end
structure WalkOk {α : Type} (J : It) (F1 H0 : Hp) (m : Md) (r : Rp α) (xs : List α) : Prop where
  go : ∀ i F H, Ex F1 F → Ex F H → Ex H0 H → i < xs.length → J.go i H
  stop : ∀ F H, Ex F1 F → Ex F H → Ex H0 H → J.stop xs.length H
  yld : ∀ i F H v H', Ex F1 F → Ex F H → Ex H0 H → i < xs.length → J.yld i H v H' → ∃ x F', xs[i]? = some x ∧ Gr F H F' H' ∧ r (pk m F' H0 H') v x
section
variable (F0 H0 : Hp)
def Ei {α : Type} (wi : TI) (G : List Slot) (m : Md) (r : Rp α) (xs : List α) : Prop := ∀ σ F H, EnvOk F0 H0 G σ F H → ∀ R : It → Hp → Prop, (∀ J F1 H1, Gr F H F1 H1 → WalkOk J F1 H0 m r xs → xs.length ≤ 16777216 → R J H1) → wi σ H R
/-- a target: what it stores; tg its slots -/
def Eg {α : Type} (g : TG) (m : Md) (r : Rp α) (up : α → List Slot → List Slot) (tg : List Nat) : Prop := ∀ F0 G σ F H v x, EnvOk F0 H0 G σ F H → r (pk m F H0 H) v x → ∀ Q : L2.St → Hp → Prop,
  (∀ σ', EnvOk F0 H0 (up x G) σ' F H → (∀ vs, (∀ j ∈ tg, j ∈ vs) → wipe σ' vs = wipe σ vs) → Q σ' H) → g v σ H Q
end
/-- an element's slot: frozen, or of the entry -/
class Md.Ok (m : Md) : Prop where
  ok : m ≠ .bo
instance : Md.Ok .sh := ⟨fun h => nomatch h⟩
instance : Md.Ok .b0 := ⟨fun h => nomatch h⟩
theorem pslot_ok {α : Type} {m : Md} [h : Md.Ok m] {r : Rp α} {im : Mo r} {F H0 H : Hp} {v : V} {x : α} (hr : r (pk m F H0 H) v x) : SlotOk H0 F H (some v) [] (pslot m r im x) := by
  cases m with
  | sh => exact ⟨v, rfl, hr⟩
  | b0 => exact ⟨v, rfl, hr⟩
  | bo => exact absurd rfl h.ok
theorem pslot_no {α : Type} {m : Md} {r : Rp α} {im : Mo r} {x : α} : ∀ M iM, pslot m r im x ≠ .ow M iM := by
  intro M iM; cases m <;> exact fun h => nomatch h
section
variable {F0 H0 : Hp} {G : List Slot} {m m1 m2 : Md} {ta tb tc te tl : TE} {t u tt : TT} {K : PySem.W.Frag} {wi : TI} {g : TG}
theorem eg_name {α : Type} {r : Rp α} [im : Mo r] [Md.Ok m] {j : Nat} : Eg H0 (gName j) m r (fun x G => G.set j (pslot m r im x)) [j] := fun F0 G σ F H v x E h Q q =>
  q _ (E.set (pslot_ok h) pslot_no) fun vs hv => wipe_set (hv j List.mem_cons_self)
theorem pick_ok {α : Type} {r : Rp α} {R : Hp} {vs : List V} {xs : List α} {i : Nat} {v : V} (p : Paired (r R) vs xs) (h : vs[i]? = some v) : ∃ x, xs[i]? = some x ∧ r R v x := pgetL p h
theorem pk_keep (m : Md) {F1 F H0 H1 H : Hp} [h : Md.Ok m] (e1 : Ex F1 F) : Ex (pk m F1 H0 H1) (pk m F H0 H) := by
  cases m with
  | sh => exact e1
  | b0 => exact Ex.refl _
  | bo => exact absurd rfl h.ok
theorem pk_in (m : Md) {F H0 H : Hp} (e1 : Ex F H) (e2 : Ex H0 H) : Ex (pk m F H0 H) H := by
  cases m with
  | sh => exact e1
  | b0 => exact e2
  | bo => exact Ex.refl _
theorem ei_list {α : Type} {r : Rp α} [Mo r] [Md.Ok m] {xs : List α} (h : Ed F0 H0 tl G m (rLst r) xs) : Ei F0 H0 (iList K tl) G m r xs := fun σ F H E R q =>
  h σ F H E _ fun v F1 H1 g1 hv => by
    obtain ⟨p, vs, rfl, h1, h2, h3⟩ := hv
    have hl := plen h3
    have sq : ∀ F H, Ex F1 F → Ex F H → Ex H0 H → SqL K H p vs := fun F H e1 e2 e3 => SqL.of (pk_in m e2 e3 _ _ (pk_keep m (H1 := H1) e1 _ _ h1))
    refine ⟨p, rfl, ⟨vs, SqL.of (pk_now (E.gr.trans g1) _ _ h1)⟩, q _ F1 H1 g1 ⟨fun i F H e1 e2 e3 hi => ⟨vs, vs[i]'(by omega), sq F H e1 e2 e3, by simp [show i < vs.length by omega]⟩,
      fun F H e1 e2 e3 => ⟨vs, sq F H e1 e2 e3, by omega⟩, fun i F H v H' e1 e2 e3 hi y => ?_⟩ h2⟩
    obtain ⟨rfl, y⟩ := y
    obtain ⟨x, hx, rx⟩ := pick_ok h3 (y vs (sq F _ e1 e2 e3))
    exact ⟨x, F, hx, Gr.refl e2, mox (pk_keep m e1) rx⟩
/-- range(n), range(a, b) as lists -/
def rng2 (a b : Int) : List Int := (List.range (b - a).toNat).map fun (k : Nat) => a + (k : Int)
def rng (n : Int) : List Int := rng2 0 n
theorem rng2_len (a b : Int) : (rng2 a b).length = (b - a).toNat := by unfold rng2; simp
theorem rng2_get {a b : Int} {i : Nat} (h : i < (b - a).toNat) : (rng2 a b)[i]? = some (a + (i : Int)) := by unfold rng2; simp [h]
theorem mem_rng2 {a b x : Int} (h : x ∈ rng2 a b) : a ≤ x ∧ x < b := by
  unfold rng2 at h
  obtain ⟨k, hk, rfl⟩ := List.mem_map.mp h
  have := List.mem_range.mp hk
  omega
theorem mem_rng {n x : Int} (h : x ∈ rng n) : 0 ≤ x ∧ x < n := mem_rng2 h
theorem ei_rng1 {n : Int} (h : Ed F0 H0 te G m1 rInt n) (hn : n ≤ 16777216) (hn0 : -16777216 ≤ n) : Ei F0 H0 (iRng1 (tCons te tNil)) G .sh rInt (rng n) := fun σ F H E R q =>
  h σ F H E _ fun v F1 H1 g1 hv => ⟨n, by rw [show v = _ from hv], by omega, by omega, q _ F1 H1 g1 ⟨fun i F H e1 e2 e3 hi => by
      unfold rng at hi; rw [rng2_len] at hi; show i < n.toNat; rw [Int.sub_zero] at hi; exact hi, fun F H e1 e2 e3 => by
      unfold rng; rw [rng2_len]; show n.toNat ≤ _; rw [Int.sub_zero]; exact Nat.le_refl _, fun i F H v H' e1 e2 e3 hi y => by
      obtain ⟨rfl, y⟩ := y
      unfold rng at hi ⊢; rw [rng2_len] at hi
      exact ⟨_, F, rng2_get hi, Gr.refl e2, y⟩⟩ (by unfold rng; rw [rng2_len]; omega)⟩
/-- a text, sign by sign -/
def rCh : Rp Nat := fun _ v c => v = .str ⟨#[c]⟩
instance : Fl rCh := ⟨fun h => h⟩
theorem ei_str {x : List Nat} (h : Ed F0 H0 te G m1 rTx x) : Ei F0 H0 (iStr te) G .sh rTx (x.map fun c => [c]) := fun σ F H E R q =>
  h σ F H E _ fun v F1 H1 g1 hv => ⟨_, hv.1, q _ F1 H1 g1 ⟨fun i F H e1 e2 e3 hi => by
      rw [List.length_map] at hi; show i < x.toArray.size; simpa using hi, fun F H e1 e2 e3 => by
      rw [List.length_map]; show x.toArray.size ≤ _; simp, fun i F H v H' e1 e2 e3 hi y => by
      obtain ⟨rfl, c, hc, y⟩ := y
      have hc : x[i]? = some c := by simpa using hc
      exact ⟨[c], F, by rw [List.getElem?_map, hc]; rfl, Gr.refl e2, y, by simp, fun d hd => by rw [List.mem_singleton.mp hd]; exact hv.2.2 c (List.mem_of_getElem? hc)⟩⟩ (by rw [List.length_map]; exact hv.2.1)⟩
theorem en_lc {α β : Type} {r : Rp α} {r' : Rp β} [Mo r'] {xs : List α} {up : α → List Slot → List Slot} {tg vs : List Nat} (p : α → Bool) (f : α → β) (hi : Ei F0 H0 wi G m r xs) (hg : Eg H0 g m r up tg) (hv : ∀ j ∈ tg, j ∈ vs)
    (ht : ∀ F1, Bs F0 H0 F1 → ∀ x ∈ xs, Et F1 H0 tt (up x (wipeG G vs)) (p x)) (he : ∀ F1, Bs F0 H0 F1 → ∀ x ∈ xs, p x = true → Ed F1 H0 te (up x (wipeG G vs)) .sh r' (f x)) :
    En F0 H0 (tLc wi g tt te vs) G r' ((xs.filter p).map f) := fun σ F H E Q q => hi σ F H E _ fun J F1 H1 g1 w hxl D hD => by
  have E1 := (E.gro g1).here
  have b1 : Bs F0 H0 F1 := (E.gr.trans g1).bs
  have nF1 : F1 D = none := g1.fh.back hD
  -- the state behind i turns
  let Pv : Nat → Hp → Prop := fun i H' => ∃ F' Hm ws, EnvOk F1 H0 (wipeG G vs) (wipe σ vs) F' Hm ∧ Gr F1 H1 F' Hm ∧ Hm D = none ∧ H' = upd Hm D (.lst ws) ∧ Paired (r' F') ws (((xs.take i).filter p).map f)
  have take_s : ∀ i x, xs[i]? = some x → xs.take (i + 1) = xs.take i ++ [x] := fun i x hx => by
    rw [List.take_add_one, hx]; rfl
  refine ⟨fun i k H' => k = xs.length - i ∧ i ≤ xs.length ∧ Pv i H', ⟨xs.length, by simp, Nat.zero_le _, F1, H1, [], E1.wipeA vs, Gr.refl g1.fh, hD, rfl, by simp; exact .nil⟩, ?_⟩
  rintro i k H' ⟨rfl, hi', F', Hm, ws, E2, g2, nD, rfl, pw⟩
  have gw := Gr.wild (p := D) (o := .lst ws) g2.fh nD
  have E3 := E2.gro gw
  have nF' : F' D = none := g2.fh.back nD
  have eH0 : Ex H0 (upd Hm D (.lst ws)) := E3.gr.hh
  by_cases hlt : i < xs.length
  · refine .inr ⟨w.go i F' _ g2.ff E3.gr.fh eH0 hlt, Pv (i + 1), fun H'' p' => ⟨xs.length - (i + 1), by omega, rfl, hlt, p'⟩, fun v H'' y => ?_⟩
    obtain ⟨x, F3, hx, g3, rx⟩ := w.yld i F' _ v H'' g2.ff E3.gr.fh eH0 hlt y
    have hmem : x ∈ xs := List.mem_of_getElem? hx
    refine hg F1 _ _ F3 H'' v x (E3.gro g3) rx _ fun σ2 E4 hw2 => ⟨?_, ?_⟩
    · rw [hw2 vs hv, wipe_wipe fun _ z => z]
    refine ht F1 b1 x hmem σ2 F3 H'' E4 _ fun F4 H4 g4 => ?_
    -- what stands but for the new list
    have slim : ∀ {Fx Hx : Hp}, Gr F' (upd Hm D (.lst ws)) Fx Hx → EnvOk F1 H0 (wipeG G vs) (wipe σ vs) Fx (fun a => if a = D then none else Hx a) ∧ Gr F1 H1 Fx (fun a => if a = D then none else Hx a) ∧ Fx D = none := fun {Fx Hx} gx => by
      have nx : Fx D = none := gx.fr nF' upd_same rfl
      have gs : Gr F' Hm Fx (fun a => if a = D then none else Hx a) := ⟨gx.ff, fun a o e => by
          have ha : a ≠ D := fun z => by rw [z, nx] at e; cases e
          show (if a = D then none else Hx a) = some o
          rw [if_neg ha]; exact gx.fh a o e, fun a o e => by
          have ha : a ≠ D := fun z => by rw [z, nD] at e; cases e
          show (if a = D then none else Hx a) = some o
          rw [if_neg ha]; exact gx.hh a o (by rw [upd_ne ha]; exact e), fun a o e n => by
          have ha : a ≠ D := fun z => by rw [z, nx] at e; cases e
          have z := gx.nw a o e n
          rw [upd_ne ha] at z; exact z⟩
      exact ⟨E2.gro gs, g2.trans gs, nx⟩
    have back : ∀ {Hx : Hp} {o : HO}, Hx D = some o → Hx = upd (fun a => if a = D then none else Hx a) D o := fun {Hx o} e => by
      funext a
      unfold upd
      by_cases ha : a = D
      · rw [if_pos ha, ha]; exact e
      · rw [if_neg ha]
        show Hx a = if a = D then none else Hx a
        rw [if_neg ha]
    have gx := g3.trans g4
    have hD4 : H4 D = some (.lst ws) := gx.hh D _ upd_same
    cases hp : p x with
    | false =>
      obtain ⟨z1, z2, z3⟩ := slim gx
      refine ⟨F4, _, ws, z1, z2, by simp, back hD4, ?_⟩
      rw [take_s i x hx, List.filter_append, List.filter_cons, if_neg (by rw [hp]; decide)]
      simpa using pmap (fun _ _ z => mox gx.ff z) pw
    | true =>
      refine he F1 b1 x hmem hp σ2 F4 H4 (E4.gro g4) _ fun y5 F5 H5 g5 hy => ?_
      have gy := gx.trans g5
      obtain ⟨z1, z2, z3⟩ := slim gy
      have hD5 : H5 D = some (.lst ws) := gy.hh D _ upd_same
      have hl : ws.length < 16777216 := by
        rw [plen pw, List.length_map]
        have := List.length_filter_le p (xs.take i)
        rw [List.length_take] at this
        omega
      refine ⟨ws, hD5, L2LT hl, F5, _, ws ++ [y5], z1, z2, by simp, ?_, ?_⟩
      · funext a
        unfold upd
        by_cases ha : a = D
        · rw [if_pos ha, if_pos ha]
        · rw [if_neg ha, if_neg ha]
          show H5 a = if a = D then none else H5 a
          rw [if_neg ha]
      · rw [take_s i x hx, List.filter_append, List.filter_cons, if_pos hp, List.map_append]
        exact papp (pmap (fun _ _ z => mox gy.ff z) pw) (.cons hy .nil)
  · have e : i = xs.length := by omega
    subst e
    rw [List.take_length] at pw
    refine .inl ⟨w.stop F' _ g2.ff E3.gr.fh eH0, q D ws F' _ (g1.trans (g2.trans gw)) (g1.hh.back hD) nF' upd_same ?_ pw⟩
    rw [List.length_map]
    exact Nat.le_trans (List.length_filter_le _ _) hxl
where L2LT {n : Nat} (h : n < 16777216) : n < sizeLine := sz_lt h
end
end LK
set_option Elab.async false
set_option linter.all false
set_option maxRecDepth 100000
set_option maxHeartbeats 4000000
set_option autoImplicit false
namespace LK
open PySem L2 PyProof.Rows PySem.Spec
section
variable {F0 H0 : Hp} {G : List Slot} {m m1 m2 : Md} {ta tb tc te tl : TE} {tt : TT} {t u : TS} {K : PySem.W.Frag} {wi : TI} {g : TG} {nx : L2.St → Hp → Prop} {rt : VK} {bk ct : L2.St → Hp → Prop}
theorem gk_seq (h : Gk F0 H0 (t ⟨u ⟨nx, rt, bk, ct⟩, rt, bk, ct⟩) G) : Gk F0 H0 (tSeq t u ⟨nx, rt, bk, ct⟩) G := h
theorem gk_setB {α : Type} {r : Rp α} [im : Mo r] {a : α} {i : Nat} (h : Ed F0 H0 te G .b0 r a) (k : Gk F0 H0 nx (G.set i (.bw r im a))) : Gk F0 H0 (tAsg te (gName i) ⟨nx, rt, bk, ct⟩) G := fun σ F H E =>
  h σ F H E _ fun v F1 H1 g1 hv => k _ F1 H1 ((E.gro g1).set ⟨v, rfl, hv⟩ fun _ _ z => nomatch z)
/-- from now on it stays as it is -/
theorem gk_freeze {α : Type} {r : Rp α} [im : Mo r] {xs : List α} {iM : MoM (mL r xs)} {k : L2.St → Hp → Prop} (i : Nat) (hi : G[i]? = some (.ow (mL r xs) iM)) (h : Gk F0 H0 k (G.set i (sF (rLst r) xs))) : Gk F0 H0 k G := fun σ F H E => by
  obtain ⟨F', E', _⟩ := E.freeze (s := sF (rLst r) xs) hi (fun p S F' ⟨hS, vs, e, h1, h2⟩ hp ee _ => ⟨.ref p, rfl, p, vs, rfl, by rw [hp p (by rw [hS]; simp), e], h1, pmap (fun _ _ z => mox ee z) h2⟩) (fun _ _ z => nomatch z)
  exact h σ F' H E'
theorem gk_cast {G' : List Slot} {k : L2.St → Hp → Prop} (e : G = G') (h : Gk F0 H0 k G') : Gk F0 H0 k G := e ▸ h
def Rt {α : Type} (F0 H0 : Hp) (rt : VK) (r : Rp α) (a : α) : Prop := ∀ v F H, Gr F0 H0 F H → r F v a → rt v H
/-- a new list is handed back -/
def RtN {α : Type} (F0 H0 : Hp) (rt : VK) (r : Rp α) (xs : List α) : Prop := ∀ p vs F H, Gr F0 H0 F H → H0 p = none → F p = none → H p = some (.lst vs) → xs.length ≤ 16777216 → Paired (r F) vs xs → rt (.ref p) H
/-- nothing is handed back at the body's end -/
def RtU (F0 H0 : Hp) (rt : VK) : Prop := ∀ F H, Gr F0 H0 F H → rt .non H
theorem Rt.up {α : Type} {r : Rp α} {a : α} {F1 : Hp} (h : Rt F0 H0 rt r a) (b : Bs F0 H0 F1) : Rt F1 H0 rt r a := fun v F H g => h v F H (g.down b)
theorem RtN.up {α : Type} {r : Rp α} {a : List α} {F1 : Hp} (h : RtN F0 H0 rt r a) (b : Bs F0 H0 F1) : RtN F1 H0 rt r a := fun p vs F H g => h p vs F H (g.down b)
theorem RtU.up {F1 : Hp} (h : RtU F0 H0 rt) (b : Bs F0 H0 F1) : RtU F1 H0 rt := fun F H g => h F H (g.down b)
theorem gk_ret {α : Type} {r : Rp α} {a b : α} (hq : Rt F0 H0 rt r b) (h : Ed F0 H0 te G .sh r a) (e : a = b) : Gk F0 H0 (tRet te ⟨nx, rt, bk, ct⟩) G := fun σ F H E =>
  h σ F H E _ fun v F1 H1 g1 hv => hq v F1 H1 (E.gr.trans g1) (e ▸ hv)
theorem gk_next (h : Gk F0 H0 nx G) : Gk F0 H0 (tNext ⟨nx, rt, bk, ct⟩) G := h
theorem gk_if {b : Bool} (h : Et F0 H0 tt G b) (h1 : b = true → Gk F0 H0 (t ⟨nx, rt, bk, ct⟩) G) (h2 : b = false → Gk F0 H0 (u ⟨nx, rt, bk, ct⟩) G) : Gk F0 H0 (tIfS tt t u ⟨nx, rt, bk, ct⟩) G := fun σ F H E =>
  h σ F H E _ fun F1 H1 g1 => by
    cases b with
    | true => exact h1 rfl σ F1 H1 (E.gro g1)
    | false => exact h2 rfl σ F1 H1 (E.gro g1)
theorem gk_app {α : Type} {r : Rp α} [im : Mo r] {xs : List α} {iM : MoM (mL r xs)} {a : α} {i : Nat} (hi : G[i]? = some (.ow (mL r xs) iM)) (h : Ed F0 H0 te G .sh r a) (hl : xs.length < 16777216) (k : Gk F0 H0 nx (G.set i (sL r (xs ++ [a])))) :
    Gk F0 H0 (tDrop (tBM K "list" rAppend (tVar i) (tCons te tNil)) ⟨nx, rt, bk, ct⟩) G := fun σ F H E => by
  obtain ⟨p, vs, hx, h1, h2, h3, h4, h5⟩ := E.lst_at hi
  refine ⟨_, hx, .inl ⟨rfl, _, SqL.of h3⟩, h σ F H E _ fun v F1 H1 g1 hv => ⟨p, vs, v, rfl, rfl, g1.hh _ _ h3, by rw [plen h5]; exact sz_lt hl, ?_⟩⟩
  exact k σ F1 _ ((E.gro g1).mutL hi hx (by simp; omega) (papp (pmap (fun _ _ z => mox g1.ff z) h5) (.cons hv .nil)))
/-- hands back a frozen datum -/
def spV {α β : Type} (T : Pt α) (pre : α → Prop) (f : α → β) (rb : Rp β) : Sp := fun vs H Q _ => ∃ F a, Ex F H ∧ T.ra F H H vs a ∧ pre a ∧ ∀ v F' H', Gr F H F' H' → rb F' v (f a) → Q v H'
theorem spV_len {α β : Type} {T : Pt α} {pre : α → Prop} {f : α → β} {rb : Rp β} {vs : List V} {H : Hp} {Q : VK} {E : XK} (h : spV T pre f rb vs H Q E) : vs.length = T.count := by
  obtain ⟨F, a, _, h, _⟩ := h; exact T.length h
theorem Pt.ra_b0 {α : Type} : ∀ (T : Pt α) {F H : Hp} {vs : List V} {a : α}, T.ra F H H vs a → ∀ {n : Nat} {G : List Slot}, ∀ (i : Nat) (s : Slot), (T.slots a)[i]? = some s → ∃ x, vs[i]? = some x ∧ SlotOk H F H (some x) [] s
  | .nil, _, _, _, _, _, _, _, i, s, h => by simp [Pt.slots] at h
  | .cons m r im t, F, H, vs, a, h, n, G, i, s, hs => by
    obtain ⟨v, us, rfl, h2, h3⟩ := h
    cases i with
    | zero =>
      have e : s = pslot m r im a.1 := (Option.some.inj hs).symm
      subst e
      refine ⟨v, rfl, ?_⟩
      cases m with
      | sh => exact ⟨v, rfl, h2⟩
      | b0 => exact ⟨v, rfl, h2⟩
      | bo => exact ⟨v, rfl, h2⟩
    | succ i => exact t.ra_b0 h3 (n := n) (G := G) i s hs
theorem slots_noM {α : Type} : ∀ (T : Pt α) (a : α) (i : Nat) (M : Mu) (iM : MoM M), (T.slots a)[i]? ≠ some (.ow M iM)
  | .nil, _, i, M, iM => by simp [Pt.slots]
  | .cons m r im t, a, 0, M, iM => by
    intro h
    have e : pslot m r im a.1 = .ow M iM := Option.some.inj h
    exact pslot_no M iM e
  | .cons m r im t, a, i + 1, M, iM => slots_noM t a.2 i M iM
theorem slots_len {α : Type} : ∀ (T : Pt α) (a : α), (T.slots a).length = T.count
  | .nil, _ => rfl
  | .cons m r im t, a => by show (t.slots a.2).length + 1 = t.count + 1; rw [slots_len t]
/-- at a def's entry -/
theorem entry {α : Type} {T : Pt α} {F H : Hp} {vs : List V} {a : α} {N : List Str} (e : Ex F H) (h : T.ra F H H vs a) (k : Nat) (hk : N.length = T.count + k) : EnvOk F H (T.slots a ++ List.replicate k .no) (L2.start N vs) F H := by
  have hl := T.length h
  have hs := slots_len T a
  refine ⟨fun _ => [], Gr.refl e, ?_, fun i s hi => ?_, fun i j M iM N' iN p hij h1 => ?_⟩
  · unfold L2.start; simp [hl, hs]; omega
  · by_cases c : i < T.count
    · rw [List.getElem?_append_left (by rw [hs]; exact c)] at hi
      obtain ⟨x, hx, ok⟩ := T.ra_b0 h (n := 0) (G := []) i s hi
      refine ⟨some x, ?_, ok⟩
      unfold L2.start
      rw [List.getElem?_append_left (by simp; omega), List.getElem?_map, hx]; rfl
    · rw [List.getElem?_append_right (by omega)] at hi
      rw [List.getElem?_replicate] at hi
      split at hi
      · cases hi
        refine ⟨none, ?_, trivial⟩
        unfold L2.start
        rw [List.getElem?_append_right (by simp; omega), List.getElem?_replicate]
        rw [if_pos (by simp; omega)]
      · cases hi
  · by_cases c : i < T.count
    · rw [List.getElem?_append_left (by rw [hs]; exact c)] at h1
      exact absurd h1 (slots_noM T a i M iM)
    · rw [List.getElem?_append_right (by omega)] at h1
      rw [List.getElem?_replicate] at h1
      split at h1 <;> cases h1
/-- a call -/
theorem ed_call {α β : Type} {T : Pt α} {pre : α → Prop} {f : α → β} {rb : Rp β} {E : XK} {t : TA} {a : α} (h : Ea F0 H0 t G T.ra a) (hT : ∀ {F H : Hp} {vs : List V}, Gr F0 H0 F H → T.ra F H0 H vs a → T.ra F H H vs a) (hp : pre a) : Ed F0 H0 (tCall (spV T pre f rb) [] E t) G .sh rb (f a) := fun σ F H EE Q q =>
  h σ F H EE _ fun vs F1 H1 g1 h1 => ⟨F1, a, g1.fh, by rw [List.append_nil]; exact hT (EE.gr.trans g1) h1, hp, fun v F2 H2 g2 h2 => q v F2 H2 (g1.trans g2) h2⟩
theorem Pt.now {α : Type} : ∀ (T : Pt α) {F H F0 H0 : Hp} {vs : List V} {a : α}, Gr F0 H0 F H → T.ra F H0 H vs a → T.ra F H H vs a
  | .nil, _, _, _, _, _, _, _, h => h
  | .cons m r i t, F, H, F0, H0, _, _, g, h => by
    obtain ⟨v, us, h1, h2, h3⟩ := h
    refine ⟨v, us, h1, i.ex (?_ : Ex (pk m F H0 H) (pk m F H H)) h2, t.now g h3⟩
    cases m with
    | sh => exact Ex.refl _
    | b0 => exact g.hh
    | bo => exact Ex.refl _
end
section
variable {P : Program} {w : World} {K : PySem.W.Frag} {mg : Str → Option Value} {base : Heap}
/-- a def that hands back a frozen datum: its body as a term, and its reading -/
theorem ok_V {α β : Type} {T : Pt α} {pre : α → Prop} {f : α → β} {rb : Rp β} {x qual : Str} {st : Stmt} {fa : Addr} {fd : FuncData} {N ps : List Str} {k : Nat} (c : Nat) (Fn : Fun K x qual st fa fd) (S : FnScope N ps (defScope st)) (hc : N.length = T.count + c) (hps : ps.length = T.count)
    (hbody : ∀ (cdv : Value) (A : Around) (outer : List Env) (s : Shared) (H : Hp) (E : XK), Room k (A.deeper (envOfC qual (defScope st) s.heap.objs.size fa cdv)) →
      ∃ t, PSs (cxOf CX0 P w K mg base N qual (defScope st) fa cdv A outer s H E).nox (defBody st) t ∧ ∀ (F : Hp) (a : α) (nx : L2.St → Hp → Prop) (rt : VK) (bk ct : L2.St → Hp → Prop), pre a → Rt F H rt rb (f a) → (∀ σ H', nx σ H' = rt .non H') → Gk F H (t ⟨nx, rt, bk, ct⟩) (T.slots a ++ List.replicate c .no)) :
    FnOk P w K mg base CX0 (k + 1) fa fd ps (spV T pre f rb) := by
  refine Fn.ok S (fun vs H Q E h => by rw [hps]; exact spV_len h) (fun cdv A outer s H vs Q E hr h => ?_)
  obtain ⟨F, a, e, ha, hp, q⟩ := h
  obtain ⟨t, ht, hg⟩ := hbody cdv A outer s H E hr
  exact ⟨t, ht, hg F a _ _ _ _ hp (fun v F' H' g h => q v F' H' g h) (fun _ _ => rfl) _ F H (entry e ha c hc)⟩
end
end LK
set_option Elab.async false
set_option linter.all false
set_option maxRecDepth 100000
set_option maxHeartbeats 4000000
set_option autoImplicit false
namespace LK
open PySem L2 PyProof.Rows PySem.Spec
/-- what a caller knows of a def by its name -/
structure Cal (K : PySem.W.Frag) (mg : Str → Option Value) (x : Str) (f : Addr) (fd : FuncData) (ps : List Str) : Prop where
  mg : mg x = some (.ref f)
  kp : PySem.W.keepIn K (.ref f) = true
  bi : Binds K fd ps []
section
variable {X : Cx} {e : Expr} {es : List Expr} {te : TE} {t : TA} {x : Str} {p pos : Pos}
theorem w_call {k : Nat} {f : Addr} {fd : FuncData} {ps : List Str} {sp : Sp} (C : Cal X.K X.mg x f fd ps) (F : FnOk X.prog X.w X.K X.mg X.base CX0 k f fd ps sp) (hr : Room k X.A) (ha : PA X (e :: es) t) (hg : Gl X x := by rfl) (hdb : (x == ("__debug__" : Str)) = false := by decide)
    (he : starEach (e :: es) X.env = (false, eval e X.env) :: starEach es X.env := by rfl) (hpl : (backTo pos (starEach es X.env)).any (·.1) = false := by rfl) : PE X (.Call (.Name x p) (e :: es) [] pos) (tCall sp [] E0 t) :=
  pe_call F hr hg C.mg C.kp C.bi .nil pass0 ha hdb he hpl
end
def Lw : List Slot → List Slot → Prop
  | [], [] => True
  | s :: G, t :: G' => (t = .no ∨ s = t) ∧ Lw G G'
  | _, _ => False
theorem Lw.len : ∀ {G G' : List Slot}, Lw G G' → G.length = G'.length
  | [], [], _ => rfl
  | _ :: _, _ :: _, h => by rw [List.length_cons, List.length_cons, Lw.len h.2]
  | [], _ :: _, h => h.elim
  | _ :: _, [], h => h.elim
theorem Lw.at_ : ∀ {G G' : List Slot}, Lw G G' → ∀ (i : Nat) (t : Slot), G'[i]? = some t → t = .no ∨ G[i]? = some t
  | [], [], _, i, t, h => by simp at h
  | s :: G, t :: G', l, 0, u, h => by
    have e : t = u := Option.some.inj h
    subst e
    rcases l.1 with q | q
    · exact .inl q
    · exact .inr (by rw [q]; rfl)
  | s :: G, t :: G', l, i + 1, u, h => Lw.at_ l.2 i u h
  | [], _ :: _, l, _, _, _ => l.elim
  | _ :: _, [], l, _, _, _ => l.elim
theorem Lw.refl : ∀ G : List Slot, Lw G G
  | [] => trivial
  | _ :: G => ⟨.inr rfl, Lw.refl G⟩
section
variable {F0 H0 F H : Hp} {G G' : List Slot} {σ : L2.St}
theorem EnvOk.weak (E : EnvOk F0 H0 G σ F H) (l : Lw G G') : EnvOk F0 H0 G' σ F H := by
  obtain ⟨fp, E⟩ := E
  refine ⟨fp, E.gr, E.len.trans l.len, fun i s h => ?_, fun i j M iM N iN p hij h1 h2 h3 => ?_⟩
  · rcases l.at_ i s h with e | e
    · subst e
      have hi : i < σ.length := by rw [E.len, l.len]; exact (List.getElem?_eq_some_iff.mp h).1
      exact ⟨_, List.getElem?_eq_getElem hi, trivial⟩
    · exact E.at_ i s e
  · rcases l.at_ i _ h1 with e | h1
    · cases e
    · rcases l.at_ j _ h2 with e | h2
      · cases e
      · exact E.dj i j M iM N iN p hij h1 h2 h3
end
section
variable {F0 H0 : Hp} {G : List Slot} {m m1 m2 : Md} {ta tb tc te tl : TE} {tt : TT} {t u : TS} {K : PySem.W.Frag} {wi : TI} {g : TG} {nx : L2.St → Hp → Prop} {rt : VK} {bk ct : L2.St → Hp → Prop}
/-- loops that may hand back, by what is to be handed back -/
def runC {α S β : Type} (f : S → α → (S → β) → β) : S → List α → (S → β) → β
  | s, [], k => k s
  | s, x :: xs, k => f s x fun s' => runC f s' xs k
def CpK {α S : Type} (F1 H0 : Hp) (P : List α → S → Prop) (ups : S → List Slot → List Slot) (G : List Slot) (rest : List α) : L2.St → Hp → Prop := fun σ H => ∃ s F, P rest s ∧ EnvOk F1 H0 (ups s G) σ F H
theorem gk_run {α S : Type} {r : Rp α} {xs : List α} {up : α → List Slot → List Slot} {tg : List Nat} (P : List α → S → Prop) (ups : S → List Slot → List Slot) (s0 : S) (hi : Ei F0 H0 wi G m r xs) (hg : Eg H0 g m r up tg) (e0 : Lw G (ups s0 G)) (p0 : P xs s0)
    (hs : ∀ F1, Bs F0 H0 F1 → ∀ x rest s, x ∈ xs → P (x :: rest) s → Gk F1 H0 (t ⟨CpK F1 H0 P ups G rest, rt, nx, CpK F1 H0 P ups G rest⟩) (up x (ups s G))) (hd : ∀ s, P [] s → Gk F0 H0 nx (ups s G)) :
    Gk F0 H0 (tFor wi g t ⟨nx, rt, bk, ct⟩) G := fun σ F H E => by
  refine hi σ F H E _ fun J F1 H1 g1 w hxl => ?_
  have E1 := ((E.gro g1).weak e0).here
  have b1 : Bs F0 H0 F1 := (E.gr.trans g1).bs
  refine ⟨fun i k σ' H' => k = xs.length - i ∧ i ≤ xs.length ∧ ∃ s F', P (xs.drop i) s ∧ EnvOk F1 H0 (ups s G) σ' F' H', ⟨xs.length, by simp, Nat.zero_le _, s0, F1, p0, E1⟩, ?_⟩
  rintro i k σ' H' ⟨rfl, hi', s, F', ps, E2⟩
  by_cases hlt : i < xs.length
  · have hx : xs[i]? = some xs[i] := List.getElem?_eq_getElem hlt
    have hd' : xs.drop i = xs[i] :: xs.drop (i + 1) := List.drop_eq_getElem_cons hlt
    rw [hd'] at ps
    refine .inr ⟨w.go i F' H' E2.gr.ff E2.gr.fh E2.gr.hh hlt, CpK F1 H0 P ups G (xs.drop (i + 1)), fun σ'' H'' ⟨s', F'', p', E'⟩ => ⟨xs.length - (i + 1), by omega, rfl, hlt, s', F'', p', E'⟩, fun v H'' y => ?_⟩
    obtain ⟨x, F3, hx', g3, rx⟩ := w.yld i F' H' v H'' E2.gr.ff E2.gr.fh E2.gr.hh hlt y
    rw [hx] at hx'
    cases hx'
    exact hg F1 _ _ F3 H'' v _ (E2.gro g3) rx _ fun σ2 E4 _ => hs F1 b1 _ _ s (List.mem_of_getElem? hx) ps σ2 F3 H'' E4
  · have e : i = xs.length := by omega
    subst e
    rw [List.drop_length] at ps
    exact .inl ⟨w.stop F' H' E2.gr.ff E2.gr.fh E2.gr.hh, hd s ps σ' F' H' (E2.down b1)⟩
theorem gk_again {α S : Type} {F1 : Hp} {P : List α → S → Prop} {ups : S → List Slot → List Slot} {G G' : List Slot} {rest : List α} (s' : S) (l : Lw G' (ups s' G)) (i : P rest s') : Gk F1 H0 (CpK F1 H0 P ups G rest) G' := fun σ F H E => ⟨s', F, i, E.weak l⟩
end
def rScr (K : PySem.W.Frag) : Rp (List Int) := fun F v ns => ∃ p, v = .ref p ∧ SqL K F p (ns.map V.int)
instance (K : PySem.W.Frag) : Mo (rScr K) := ⟨fun e ⟨p, h1, h2⟩ => by
  refine ⟨p, h1, ?_⟩
  rcases h2 with (h2 | ⟨o, h2⟩) | h2
  · exact .inl (.inl (e.at_ h2 rfl))
  · exact .inl (.inr ⟨o, e.at_ h2 rfl⟩)
  · exact .inr h2⟩
theorem SqL.ex {K : PySem.W.Frag} {F F' : Hp} {p : Addr} {xs : List V} (h : SqL K F p xs) (e : Ex F F') : SqL K F' p xs := by
  rcases h with (h | ⟨o, h⟩) | h
  · exact .inl (.inl (e _ _ h))
  · exact .inl (.inr ⟨o, e _ _ h⟩)
  · exact .inr h
section
variable {F0 H0 : Hp} {G : List Slot} {m m1 m2 : Md} {ta tb : TE} {K : PySem.W.Frag}
theorem ed_lenS {ns : List Int} (hx : Ed F0 H0 ta G m1 (rScr K) ns) : Ed F0 H0 (tCB (rLenQ K) (tCons ta tNil)) G m rInt (ns.length : Int) :=
  ed_c1 hx fun v F H g0 hv Q q => by
    obtain ⟨p, rfl, h1⟩ := hv
    exact ⟨p, _, rfl, .inl (SqL.ex h1 (pk_now g0)), q _ F H (Gr.refl g0.fh) (by rw [List.length_map]; rfl)⟩
theorem ed_ixS {ns : List Int} {i : Int} (hx : Ed F0 H0 ta G m1 (rScr K) ns) (hy : Ed F0 H0 tb G m2 rInt i) (hi : ixOk ns.length i) : Ed F0 H0 (tOp (rIxL K) ta tb) G m rInt (ixD ns i) :=
  ed_bin hx hy fun v w F H g0 hv hw Q q => by
    obtain ⟨p, rfl, h1⟩ := hv
    refine ⟨p, _, i, .int (ixD ns i), rfl, hw, SqL.ex h1 (pk_now g0), ?_, q _ F H (Gr.refl g0.fh) rfl⟩
    have e := atI_ok hi
    unfold atI at e ⊢
    rw [List.length_map]
    cases q : ixN ns.length i with
    | none => rw [q] at e; cases e
    | some j =>
      rw [q] at e
      show (ns.map V.int)[j]? = _
      have e : ns[j]? = some (ixD ns i) := e
      rw [List.getElem?_map, e]; rfl
end
inductive Dt
  | non | bl (b : Bool) | int (i : Int) | tx (s : List Nat) | lst (xs : List Dt) | tup (xs : List Dt)
mutual
def rDt (F : Hp) : V → Dt → Prop
  | v, .non => v = .non
  | v, .bl b => v = .bl b
  | v, .int i => v = .int i
  | v, .tx s => v = .str ⟨s.toArray⟩ ∧ s.length ≤ 16777216 ∧ ∀ c ∈ s, c < 1114112
  | v, .lst xs => ∃ p vs, v = .ref p ∧ F p = some (.lst vs) ∧ xs.length ≤ 16777216 ∧ rDts F vs xs
  | v, .tup xs => ∃ p vs, v = .ref p ∧ F p = some (.tup vs) ∧ xs.length ≤ 16777216 ∧ rDts F vs xs
def rDts (F : Hp) : List V → List Dt → Prop
  | vs, [] => vs = []
  | vs, x :: xs => ∃ v us, vs = v :: us ∧ rDt F v x ∧ rDts F us xs
end
theorem rDts_p {F : Hp} : ∀ {vs : List V} {xs : List Dt}, rDts F vs xs ↔ Paired (rDt F) vs xs
  | vs, [] => by
    unfold rDts
    exact ⟨fun h => by rw [h]; exact .nil, fun h => by cases h; rfl⟩
  | vs, x :: xs => by
    unfold rDts
    constructor
    · rintro ⟨v, us, rfl, h1, h2⟩; exact .cons h1 (rDts_p.mp h2)
    · intro h
      cases h with
      | cons h1 h2 => exact ⟨_, _, rfl, h1, rDts_p.mpr h2⟩
mutual
theorem rDt_mo {F F' : Hp} (e : Exs F F') : ∀ {d : Dt} {v : V}, rDt F v d → rDt F' v d
  | .non, _, h => by unfold rDt at h ⊢; exact h
  | .bl _, _, h => by unfold rDt at h ⊢; exact h
  | .int _, _, h => by unfold rDt at h ⊢; exact h
  | .tx _, _, h => by unfold rDt at h ⊢; exact h
  | .lst xs, _, h => by
    unfold rDt at h ⊢
    obtain ⟨p, vs, h1, h2, h3, h4⟩ := h
    exact ⟨p, vs, h1, e.at_ h2 rfl, h3, rDts_mo e h4⟩
  | .tup xs, _, h => by
    unfold rDt at h ⊢
    obtain ⟨p, vs, h1, h2, h3, h4⟩ := h
    exact ⟨p, vs, h1, e.at_ h2 rfl, h3, rDts_mo e h4⟩
theorem rDts_mo {F F' : Hp} (e : Exs F F') : ∀ {ds : List Dt} {vs : List V}, rDts F vs ds → rDts F' vs ds
  | [], _, h => by unfold rDts at h ⊢; exact h
  | x :: xs, _, h => by
    unfold rDts at h ⊢
    obtain ⟨v, us, h1, h2, h3⟩ := h
    exact ⟨v, us, h1, rDt_mo e h2, rDts_mo e h3⟩
end
instance : Mo rDt := ⟨fun e h => rDt_mo e h⟩
/-- a datum of a known kind as one of these -/
class Tod {α : Type} (r : Rp α) where
  d : α → Dt
  to : ∀ {F : Hp} {v : V} {a : α}, r F v a → rDt F v (d a)
  inj : ∀ {a b : α}, d a = d b → a = b
instance : Tod rInt := ⟨.int, fun h => by unfold rDt; exact h, fun e => by injection e⟩
instance : Tod rBl := ⟨.bl, fun h => by unfold rDt; exact h, fun e => by injection e⟩
instance : Tod rTx := ⟨.tx, fun h => by unfold rDt; exact h, fun e => by injection e⟩
theorem map_inj {α β : Type} {f : α → β} (h : ∀ {a b : α}, f a = f b → a = b) : ∀ {xs ys : List α}, xs.map f = ys.map f → xs = ys
  | [], [], _ => rfl
  | [], _ :: _, e => by cases e
  | _ :: _, [], e => by cases e
  | x :: xs, y :: ys, e => by
    injection e with e1 e2
    rw [h e1, map_inj h e2]
theorem pmapr {α β γ : Type} {R : α → β → Prop} {S : α → γ → Prop} {f : β → γ} (h : ∀ a b, R a b → S a (f b)) : ∀ {xs : List α} {ys : List β}, Paired R xs ys → Paired S xs (ys.map f)
  | _, _, .nil => .nil
  | _, _, .cons a t => .cons (h _ _ a) (pmapr h t)
instance {α : Type} (r : Rp α) [h : Tod r] : Tod (rLst r) := ⟨fun xs => .lst (xs.map h.d), fun ⟨p, vs, h1, h2, h3, h4⟩ => by unfold rDt; exact ⟨p, vs, h1, h2, by rw [List.length_map]; exact h3, rDts_p.mpr (pmapr (fun _ _ z => h.to z) h4)⟩, fun e => by
  injection e with e; exact map_inj (fun z => h.inj z) e⟩
instance {α : Type} (r : Rp α) [h : Tod r] : Tod (rTup r) := ⟨fun xs => .tup (xs.map h.d), fun ⟨p, vs, h1, h2, h3, h4⟩ => by unfold rDt; exact ⟨p, vs, h1, h2, by rw [List.length_map]; exact h3, rDts_p.mpr (pmapr (fun _ _ z => h.to z) h4)⟩, fun e => by
  injection e with e; exact map_inj (fun z => h.inj z) e⟩
instance {α β : Type} (r : Rp α) (s : Rp β) [h : Tod r] [g : Tod s] : Tod (rPr r s) := ⟨fun x => .tup [h.d x.1, g.d x.2], fun ⟨p, u, w, h1, h2, h3, h4⟩ => by unfold rDt; exact ⟨p, [u, w], h1, h2, by simp, rDts_p.mpr (.cons (h.to h3) (.cons (g.to h4) .nil))⟩, fun {a b} e => by
  injection e with e
  injection e with e1 e2
  injection e2 with e2 _
  exact Prod.ext (h.inj e1) (g.inj e2)⟩
end LK
set_option Elab.async false
set_option linter.all false
set_option maxRecDepth 100000
set_option maxHeartbeats 4000000
set_option autoImplicit false
namespace LK
open PySem L2 PyProof.Rows PySem.Spec
theorem ct {α : Type} {c : Bool} {x y z : α} (h : c = true) (e : x = z) : cond c x y = z := by rw [h]; exact e
theorem lw_nil : Lw [] [] := trivial
theorem lw_no {s : Slot} {G G' : List Slot} (h : Lw G G') : Lw (s :: G) (.no :: G') := ⟨.inl rfl, h⟩
theorem lw_eq {s t : Slot} {G G' : List Slot} (e : s = t) (h : Lw G G') : Lw (s :: G) (t :: G') := ⟨.inr e, h⟩
theorem rng_len (n : Int) : (rng n).length = n.toNat := by unfold rng; rw [rng2_len, Int.sub_zero]
section
variable {F0 H0 : Hp} {G : List Slot} {m m1 m2 : Md} {ta tb tc te tl : TE} {tt : TT} {t u : TS} {K : PySem.W.Frag} {wi : TI} {g : TG} {nx : L2.St → Hp → Prop} {rt : VK} {bk ct : L2.St → Hp → Prop}
theorem gk_ifT (h : Et F0 H0 tt G true) (k : Gk F0 H0 (t ⟨nx, rt, bk, ct⟩) G) : Gk F0 H0 (tIfS tt t u ⟨nx, rt, bk, ct⟩) G := gk_if h (fun _ => k) (fun e => nomatch e)
theorem gk_ifF (h : Et F0 H0 tt G false) (k : Gk F0 H0 (u ⟨nx, rt, bk, ct⟩) G) : Gk F0 H0 (tIfS tt t u ⟨nx, rt, bk, ct⟩) G := gk_if h (fun e => nomatch e) (fun _ => k)
class Ln {α : Type} (r : Rp (List α)) : Prop where
  ln : ∀ {F : Hp} {v : V} {x : List α}, r F v x → x.length ≤ 16777216
instance : Ln rTx := ⟨fun h => h.2.1⟩
instance {α : Type} (r : Rp α) : Ln (rLst r) := ⟨fun ⟨_, _, _, _, h, _⟩ => h⟩
instance {α : Type} (r : Rp α) : Ln (rTup r) := ⟨fun ⟨_, _, _, _, h, _⟩ => h⟩
theorem ptx {F : Hp} : ∀ {vs : List V} {xs : List (List Nat)}, Paired (rTx F) vs xs → vs = xs.map fun x => V.str ⟨x.toArray⟩
  | _, _, .nil => rfl
  | _, _, .cons h t => by rw [List.map_cons, ← ptx t, h.1]
theorem ptx_ok {F : Hp} : ∀ {vs : List V} {xs : List (List Nat)}, Paired (rTx F) vs xs → ∀ l ∈ xs, ∀ c ∈ l, c < 1114112
  | _, _, .cons h t, l, hl, c, hc => by
    rcases List.mem_cons.mp hl with e | e
    · subst e; exact h.2.2 c hc
    · exact ptx_ok t l e c hc
abbrev rJoin (K : PySem.W.Frag) : V → List V → Hp → VK → Prop := fun x xs H Q => ∃ a p, ∃ ys : List Str, x = .str a ∧ xs = [.ref p] ∧ (SqL K H p (ys.map V.str) ∨ SqT K H p (ys.map V.str)) ∧ (ys.map (·.length)).sum + ys.length * a.length ≤ 16777216 ∧ Q (.str (Txt.join a ys)) H
theorem joinL_nil : ∀ xs : List (List Nat), TL.joinL [] xs = xs.flatten
  | [] => rfl
  | [p] => by simp [TL.joinL]
  | p :: q :: r => by
    show p ++ ([] ++ TL.joinL [] (q :: r)) = _
    rw [joinL_nil (q :: r)]; simp
theorem sum_len : ∀ xs : List (List Nat), ((xs.map fun x => (⟨x.toArray⟩ : Str)).map (·.length)).sum = xs.flatten.length
  | [] => rfl
  | x :: xs => by
    rw [List.map_cons, List.map_cons, List.sum_cons, sum_len xs, List.flatten_cons, List.length_append, tx_len]
theorem ed_join {xs : List (List Nat)} (hx : Ed F0 H0 ta G m1 rTx []) (hy : Ed F0 H0 tb G m2 (rLst rTx) xs) (hl : xs.flatten.length ≤ 16777216) : Ed F0 H0 (tM1 (rJoin K) ta tb) G m rTx xs.flatten := fun σ F H E Q q =>
  hx σ F H E _ fun v F1 H1 g1 hv => ⟨⟨_, hv.1⟩, hy σ F1 H1 (E.gro g1) _ fun w F2 H2 g2 hw => by
    obtain ⟨p, vs, rfl, h1, h2, h3⟩ := hw
    refine ⟨_, p, xs.map fun x => (⟨x.toArray⟩ : Str), hv.1, rfl, .inl (SqL.of ?_), ?_, ?_⟩
    · have e := ptx h3
      have h := pk_now (E.gr.trans (g1.trans g2)) _ _ h1
      rw [e] at h
      rw [List.map_map]; exact h
    · rw [sum_len, tx_len, List.length_nil, Nat.mul_zero, Nat.add_zero]; exact hl
    · refine q _ F2 H2 (g1.trans g2) ⟨?_, hl, fun c hc => by obtain ⟨l, hl1, hl2⟩ := List.mem_flatten.mp hc; exact ptx_ok h3 l hl1 c hl2⟩
      have e : TL.tl (Txt.join ⟨([] : List Nat).toArray⟩ (xs.map fun x => (⟨x.toArray⟩ : Str))) = xs.flatten := by
        rw [TL.join_eq, TL.tl_join]
        have e2 : (xs.map fun x => (⟨x.toArray⟩ : Str)).map TL.tl = xs := by
          rw [List.map_map]
          exact (List.map_congr_left (fun _ _ => rfl)).trans (List.map_id xs)
        rw [e2]
        exact joinL_nil xs
      exact congrArg V.str (TL.ext_tl e)⟩
end
mutual
def Dt.dep : Dt → Nat
  | .lst xs => depAll xs + 1
  | .tup xs => depAll xs + 1
  | _ => 0
def depAll : List Dt → Nat
  | [] => 0
  | x :: xs => max x.dep (depAll xs)
end
theorem dep_mem {x : Dt} : ∀ {xs : List Dt}, x ∈ xs → x.dep ≤ depAll xs
  | y :: ys, h => by
    unfold depAll
    rcases List.mem_cons.mp h with e | e
    · subst e; exact Nat.le_max_left _ _
    · exact Nat.le_trans (dep_mem e) (Nat.le_max_right _ _)
theorem depAll_le {n : Nat} : ∀ {xs : List Dt}, (∀ x ∈ xs, x.dep ≤ n) → depAll xs ≤ n
  | [], _ => Nat.zero_le _
  | x :: xs, h => by
    unfold depAll
    exact Nat.max_le.mpr ⟨h x List.mem_cons_self, depAll_le fun y hy => h y (List.mem_cons_of_mem _ hy)⟩
mutual
def same : Dt → Dt → Bool
  | .non, .non => true
  | .bl a, .bl b => decide (a = b)
  | .int a, .int b => decide (a = b)
  | .tx a, .tx b => decide (a = b)
  | .lst a, .lst b => sames a b
  | .tup a, .tup b => sames a b
  | _, _ => false
def sames : List Dt → List Dt → Bool
  | [], [] => true
  | a :: as, b :: bs => same a b && sames as bs
  | _, _ => false
end
mutual
theorem same_iff : ∀ (a b : Dt), same a b = true ↔ a = b
  | .non, b => by cases b <;> simp [same]
  | .bl x, b => by cases b <;> simp [same]
  | .int x, b => by cases b <;> simp [same]
  | .tx x, b => by cases b <;> simp [same]
  | .lst xs, b => by
    cases b with
    | lst ys => simp only [same, Dt.lst.injEq]; exact sames_iff xs ys
    | _ => simp [same]
  | .tup xs, b => by
    cases b with
    | tup ys => simp only [same, Dt.tup.injEq]; exact sames_iff xs ys
    | _ => simp [same]
theorem sames_iff : ∀ (as bs : List Dt), sames as bs = true ↔ as = bs
  | [], bs => by cases bs <;> simp [sames]
  | a :: as, [] => by simp [sames]
  | a :: as, b :: bs => by
    simp only [sames, Bool.and_eq_true, List.cons.injEq]
    rw [same_iff a b, sames_iff as bs]
end
theorem sames_len : ∀ {as bs : List Dt}, sames as bs = true → as.length = bs.length := fun {as bs} h => by rw [(sames_iff as bs).mp h]
/-- from the k-th place on -/
theorem sames_drop {as bs : List Dt} (hl : as.length = bs.length) : ∀ k, k < bs.length → sames (as.drop k) (bs.drop k) = (same (as.getD k .non) (bs.getD k .non) && sames (as.drop (k + 1)) (bs.drop (k + 1))) := fun k hk => by
  rw [List.drop_eq_getElem_cons (show k < as.length by omega), List.drop_eq_getElem_cons hk]
  simp [sames, List.getD_eq_getElem?_getD, List.getElem?_eq_getElem hk, List.getElem?_eq_getElem (show k < as.length by omega)]
class Dep {α : Type} (r : Rp α) [t : Tod r] (n : outParam Nat) : Prop where
  le : ∀ a : α, (t.d a).dep ≤ n
instance : Dep rInt 0 := ⟨fun a => Nat.le_refl _⟩
instance : Dep rBl 0 := ⟨fun a => Nat.le_refl _⟩
instance : Dep rTx 0 := ⟨fun a => Nat.le_refl _⟩
instance {α : Type} (r : Rp α) [t : Tod r] (n : Nat) [h : Dep r n] : Dep (rLst r) (n + 1) := ⟨fun a => Nat.succ_le_succ (depAll_le fun x hx => by obtain ⟨y, _, rfl⟩ := List.mem_map.mp hx; exact h.le y)⟩
instance {α : Type} (r : Rp α) [t : Tod r] (n : Nat) [h : Dep r n] : Dep (rTup r) (n + 1) := ⟨fun a => Nat.succ_le_succ (depAll_le fun x hx => by obtain ⟨y, _, rfl⟩ := List.mem_map.mp hx; exact h.le y)⟩
instance {α β : Type} (r : Rp α) (s : Rp β) [t : Tod r] [t' : Tod s] (n k : Nat) [h : Dep r n] [h' : Dep s k] : Dep (rPr r s) (max n k + 1) := ⟨fun a => by
  show Dt.dep (.tup [t.d a.1, t'.d a.2]) ≤ _
  simp only [Dt.dep, depAll]
  have := h.le a.1
  have := h'.le a.2
  omega⟩
/-- the types' names -/
def Dt.ty : Dt → String
  | .non => "NoneType" | .bl _ => "bool" | .int _ => "int" | .tx _ => "str" | .lst _ => "list" | .tup _ => "tuple"
def isi (T : String) (d : Dt) : Bool := (kitB d.ty T).getD false
def kitOk (T : String) : Bool := ["NoneType", "bool", "int", "str", "list", "tuple"].all fun s => (kitB s T).isSome
def Dt.kB : Dt → Bool
  | .bl _ => true
  | _ => false
def Dt.kI : Dt → Bool
  | .bl _ => true
  | .int _ => true
  | _ => false
def Dt.kS : Dt → Bool
  | .tx _ => true
  | _ => false
def Dt.kL : Dt → Bool
  | .lst _ => true
  | _ => false
def Dt.kU : Dt → Bool
  | .tup _ => true
  | _ => false
theorem isi_b (d : Dt) : isi "bool" d = d.kB := by unfold isi; cases d <;> simp only [Dt.ty, Dt.kB] <;> decide +kernel
theorem isi_i (d : Dt) : isi "int" d = d.kI := by unfold isi; cases d <;> simp only [Dt.ty, Dt.kI] <;> decide +kernel
theorem isi_s (d : Dt) : isi "str" d = d.kS := by unfold isi; cases d <;> simp only [Dt.ty, Dt.kS] <;> decide +kernel
theorem isi_l (d : Dt) : isi "list" d = d.kL := by unfold isi; cases d <;> simp only [Dt.ty, Dt.kL] <;> decide +kernel
theorem isi_u (d : Dt) : isi "tuple" d = d.kU := by unfold isi; cases d <;> simp only [Dt.ty, Dt.kU] <;> decide +kernel
section
variable {F0 H0 : Hp} {G : List Slot} {m m1 m2 : Md} {ta tb tc te tl : TE} {tt : TT} {t u : TS} {K : PySem.W.Frag} {nx : L2.St → Hp → Prop} {rt : VK} {bk ct : L2.St → Hp → Prop}
theorem Ed.dt {α : Type} {r : Rp α} [h : Tod r] {a : α} (x : Ed F0 H0 te G m r a) : Ed F0 H0 te G m rDt (h.d a) := fun σ F H E Q q => x σ F H E Q fun v F' H' g hv => q v F' H' g (h.to hv)
theorem dt_ty {F H : Hp} {v : V} {d : Dt} (h : rDt F v d) (e : Ex F H) : TyX K H v (.type d.ty) := by
  cases d with
  | non => unfold rDt at h; subst h; exact .base .non
  | bl b => unfold rDt at h; subst h; exact .base (.bl _)
  | int i => unfold rDt at h; subst h; exact .base (.int _)
  | tx s => unfold rDt at h; obtain ⟨h, _⟩ := h; subst h; exact .base (.str _)
  | lst xs => unfold rDt at h; obtain ⟨p, vs, rfl, h2, _⟩ := h; exact .base (.lst (e _ _ h2))
  | tup xs => unfold rDt at h; obtain ⟨p, vs, rfl, h2, _⟩ := h; exact .base (.tup (e _ _ h2))
theorem kitOk_at {T : String} (h : kitOk T = true) (d : Dt) : kitB d.ty T = some (isi T d) := by
  have h := List.all_eq_true.mp h d.ty (by cases d <;> simp [Dt.ty])
  unfold isi
  cases e : kitB d.ty T with
  | none => rw [e] at h; cases h
  | some b => rfl
theorem ed_isi {T : String} {d : Dt} (h : Ed F0 H0 ta G m1 rDt d) (hT : kitOk T = true := by decide +kernel) : Ed F0 H0 (tCB (rIsi K) (tCons ta (tCons (tC (.ty T)) tNil))) G m rBl (isi T d) := fun σ F H E Q q =>
  h σ F H E _ fun v F1 H1 g1 hv => ⟨v, .ty T, .type d.ty, .type T, _, rfl, .ty T, dt_ty hv (pk_now (E.gr.trans g1)), kit_ty (kitOk_at hT d), q _ F1 H1 g1 rfl⟩
def Dt.isN : Dt → Bool
  | .non => true
  | _ => false
theorem ed_isND {d : Dt} (h : Ed F0 H0 ta G m1 rDt d) : Ed F0 H0 (tIsN ta) G m rBl d.isN :=
  ed_un (r := fun x H Q => Q (.bl (decide (x = .non))) H) h fun v F H g0 hv Q q => q _ F H (Gr.refl g0.fh) (by
    cases d with
    | non => unfold rDt at hv; subst hv; rfl
    | bl b => unfold rDt at hv; subst hv; rfl
    | int i => unfold rDt at hv; subst hv; rfl
    | tx s => unfold rDt at hv; obtain ⟨h, _⟩ := hv; subst h; rfl
    | lst xs => unfold rDt at hv; obtain ⟨p, vs, rfl, _⟩ := hv; rfl
    | tup xs => unfold rDt at hv; obtain ⟨p, vs, rfl, _⟩ := hv; rfl)
theorem Ed.dB {b : Bool} (h : Ed F0 H0 te G m rDt (.bl b)) : Ed F0 H0 te G m rBl b := fun σ F H E Q q => h σ F H E Q fun v F' H' g hv => q v F' H' g (by unfold rDt at hv; exact hv)
theorem Ed.dI {b : Int} (h : Ed F0 H0 te G m rDt (.int b)) : Ed F0 H0 te G m rInt b := fun σ F H E Q q => h σ F H E Q fun v F' H' g hv => q v F' H' g (by unfold rDt at hv; exact hv)
theorem Ed.dT {b : List Nat} (h : Ed F0 H0 te G m rDt (.tx b)) : Ed F0 H0 te G m rTx b := fun σ F H E Q q => h σ F H E Q fun v F' H' g hv => q v F' H' g (by unfold rDt at hv; exact hv)
theorem Ed.dL {b : List Dt} (h : Ed F0 H0 te G m rDt (.lst b)) : Ed F0 H0 te G m (rLst rDt) b := fun σ F H E Q q => h σ F H E Q fun v F' H' g hv => q v F' H' g (by unfold rDt at hv; obtain ⟨p, vs, h1, h2, h3, h4⟩ := hv; exact ⟨p, vs, h1, h2, h3, rDts_p.mp h4⟩)
theorem Ed.dU {b : List Dt} (h : Ed F0 H0 te G m rDt (.tup b)) : Ed F0 H0 te G m (rTup rDt) b := fun σ F H E Q q => h σ F H E Q fun v F' H' g hv => q v F' H' g (by unfold rDt at hv; obtain ⟨p, vs, h1, h2, h3, h4⟩ := hv; exact ⟨p, vs, h1, h2, h3, rDts_p.mp h4⟩)
instance : Inhabited Dt := ⟨.non⟩
/-- a list or a tuple of these -/
def Dt.items : Dt → List Dt
  | .lst xs => xs
  | .tup xs => xs
  | _ => []
def Dt.isSeq : Dt → Bool
  | .lst _ => true
  | .tup _ => true
  | _ => false
theorem ed_lenD {d : Dt} (hs : d.isSeq = true) (h : Ed F0 H0 ta G m1 rDt d) : Ed F0 H0 (tCB (rLenQ K) (tCons ta tNil)) G m rInt (d.items.length : Int) := by
  cases d with
  | lst xs => exact ed_lenL h.dL
  | tup xs => exact ed_lenU h.dU
  | _ => cases hs
theorem ed_ixDt {d : Dt} {i : Int} (hs : d.isSeq = true) (h : Ed F0 H0 ta G m rDt d) (hy : Ed F0 H0 tb G m2 rInt i) (hi : ixOk d.items.length i) : Ed F0 H0 (tOp (rIx K) ta tb) G m rDt (ixD d.items i) := by
  cases d with
  | lst xs =>
    exact ed_bin h.dL hy fun v w F H g0 hv hw Q q => by
      obtain ⟨p, vs, rfl, h1, h2, h3⟩ := hv
      obtain ⟨x, e, rx⟩ := pat h3 (atI_ok hi)
      exact .inl ⟨p, vs, i, x, rfl, hw, SqL.of (pk_now g0 _ _ h1), e, q _ F H (Gr.refl g0.fh) rx⟩
  | tup xs =>
    exact ed_bin h.dU hy fun v w F H g0 hv hw Q q => by
      obtain ⟨p, vs, rfl, h1, h2, h3⟩ := hv
      obtain ⟨x, e, rx⟩ := pat h3 (atI_ok hi)
      exact .inr (.inl ⟨p, vs, i, x, rfl, hw, SqT.of (pk_now g0 _ _ h1), e, q _ F H (Gr.refl g0.fh) rx⟩)
  | _ => cases hs
theorem same_ll (x b : List Dt) : same (.lst x) (.lst b) = sames x b := by simp only [same]
theorem same_uu (x b : List Dt) : same (.tup x) (.tup b) = sames x b := by simp only [same]
abbrev tI (K : PySem.W.Frag) (i : Nat) (T : String) : TE := tCB (rIsi K) (tCons (tVar i) (tCons (tC (.ty T)) tNil))
abbrev tEq01 : TE := tOp rEq (tVar 0) (tVar 1)
abbrev tSameLead (K : PySem.W.Frag) (rest : TS) : TS :=
  tSeq (tIfS (tB (tIsN (tVar 1))) (tRet (tIsN (tVar 0))) tNext)
  (tSeq (tIfS (tB (tI K 1 "bool")) (tRet (tAndV (tI K 0 "bool") tEq01)) tNext)
  (tSeq (tIfS (tB (tI K 1 "int")) (tRet (tAndV (tI K 0 "int") (tAndV (tNotV (tI K 0 "bool")) tEq01))) tNext)
  (tSeq (tIfS (tB (tI K 1 "str")) (tRet (tAndV (tI K 0 "str") tEq01)) tNext)
  (tSeq (tIfS (tAnd (tB (tI K 1 "list")) (tNot (tB (tI K 0 "list")))) (tRet (tC (.bl false))) tNext)
  (tSeq (tIfS (tAnd (tB (tI K 1 "tuple")) (tNot (tB (tI K 0 "tuple")))) (tRet (tC (.bl false))) tNext) rest)))))
theorem same_lead {a d : Dt} {ia id : Mo rDt} {rest : TS} (hq : Rt F0 H0 rt rBl (same a d)) (hr : a.isSeq = true → d.isSeq = true → same a d = sames a.items d.items → Gk F0 H0 (rest ⟨nx, rt, bk, ct⟩) [.bw rDt ia a, .bw rDt id d, .no]) : Gk F0 H0 (tSameLead K rest ⟨nx, rt, bk, ct⟩) [.bw rDt ia a, .bw rDt id d, .no] := by
  have e0 : Ed F0 H0 (tVar 0) [.bw rDt ia a, .bw rDt id d, .no] .b0 rDt a := ed_b rfl
  have e1 : Ed F0 H0 (tVar 1) [.bw rDt ia a, .bw rDt id d, .no] .b0 rDt d := ed_b rfl
  have i0 : ∀ T, kitOk T = true → Ed F0 H0 (tI K 0 T) [.bw rDt ia a, .bw rDt id d, .no] .sh rBl (isi T a) := fun T h => ed_isi e0 h
  have no : ∀ {tt : TT} {t : TS} {nx : L2.St → Hp → Prop} {rt : VK} {bk ct : L2.St → Hp → Prop}, Et F0 H0 tt [.bw rDt ia a, .bw rDt id d, .no] false → Gk F0 H0 nx [.bw rDt ia a, .bw rDt id d, .no] → Gk F0 H0 (tIfS tt t tNext ⟨nx, rt, bk, ct⟩) [.bw rDt ia a, .bw rDt id d, .no] := fun h k => gk_ifF h k
  have n1 : ∀ T, kitOk T = true → isi T d = false → Et F0 H0 (tB (tI K 1 T)) [.bw rDt ia a, .bw rDt id d, .no] false := fun T h e => (et_B (ed_isi (m := .sh) e1 h)).cast e
  have y1 : ∀ T, kitOk T = true → isi T d = true → Et F0 H0 (tB (tI K 1 T)) [.bw rDt ia a, .bw rDt id d, .no] true := fun T h e => (et_B (ed_isi (m := .sh) e1 h)).cast e
  have na : ∀ T, kitOk T = true → isi T d = false → Et F0 H0 (tAnd (tB (tI K 1 T)) (tNot (tB (tI K 0 T)))) [.bw rDt ia a, .bw rDt id d, .no] false := fun T h e => et_and (b := false) (n1 T h e) (fun z => nomatch z)
  have ya : ∀ T, kitOk T = true → isi T d = true → Et F0 H0 (tAnd (tB (tI K 1 T)) (tNot (tB (tI K 0 T)))) [.bw rDt ia a, .bw rDt id d, .no] (!isi T a) := fun T h e => et_and (y1 T h e) (fun _ => et_not (et_B (i0 T h)))
  have kb : kitOk "bool" = true := by decide +kernel
  have ki : kitOk "int" = true := by decide +kernel
  have ks : kitOk "str" = true := by decide +kernel
  have kl : kitOk "list" = true := by decide +kernel
  have ku : kitOk "tuple" = true := by decide +kernel
  cases d with
  | non =>
    refine gk_seq (gk_ifT (et_B (ed_isND (m := .sh) e1)) (gk_ret hq (ed_isND (m := .sh) e0) ?_))
    cases a <;> simp [same, Dt.isN]
  | bl b =>
    refine gk_seq (no (et_B (ed_isND (m := .sh) e1)) (gk_seq (gk_ifT (y1 _ kb (isi_b _)) ?_)))
    cases a with
    | bl x => exact gk_ret hq (ed_andV (m := .sh) (i0 _ kb) (fun _ => ed_eq (m := .sh) e0.dB e1.dB)) (by simp only [isi_b, isi_i, isi_s]; simp [same, Dt.kB, Dt.kI, Dt.kS])
    | _ => exact gk_ret hq (ed_andV (m := .sh) (m2 := .sh) (b := false) (i0 _ kb) (fun z => nomatch z)) (by simp only [isi_b, isi_i, isi_s]; simp [same, Dt.kB, Dt.kI, Dt.kS])
  | int b =>
    refine gk_seq (no (et_B (ed_isND (m := .sh) e1)) (gk_seq (no (n1 _ kb (isi_b _)) (gk_seq (gk_ifT (y1 _ ki (isi_i _)) ?_)))))
    cases a with
    | int x => exact gk_ret hq (ed_andV (m := .sh) (i0 _ ki) (fun _ => ed_andV (m := .sh) (ed_notV (m := .sh) (i0 _ kb)) (fun _ => ed_eq (m := .sh) e0.dI e1.dI))) (by simp only [isi_b, isi_i, isi_s]; simp [same, Dt.kB, Dt.kI, Dt.kS])
    | bl x => exact gk_ret hq (ed_andV (m := .sh) (i0 _ ki) (fun _ => ed_andV (m := .sh) (m2 := .sh) (b := false) (ed_notV (m := .sh) (i0 _ kb)) (fun z => nomatch z))) (by simp only [isi_b, isi_i, isi_s]; simp [same, Dt.kB, Dt.kI, Dt.kS])
    | _ => exact gk_ret hq (ed_andV (m := .sh) (m2 := .sh) (b := false) (i0 _ ki) (fun z => nomatch z)) (by simp only [isi_b, isi_i, isi_s]; simp [same, Dt.kB, Dt.kI, Dt.kS])
  | tx b =>
    refine gk_seq (no (et_B (ed_isND (m := .sh) e1)) (gk_seq (no (n1 _ kb (isi_b _)) (gk_seq (no (n1 _ ki (isi_i _)) (gk_seq (gk_ifT (y1 _ ks (isi_s _)) ?_)))))))
    cases a with
    | tx x => exact gk_ret hq (ed_andV (m := .sh) (i0 _ ks) (fun _ => ed_eq (m := .sh) e0.dT e1.dT)) (by simp only [isi_b, isi_i, isi_s]; simp [same, Dt.kB, Dt.kI, Dt.kS])
    | _ => exact gk_ret hq (ed_andV (m := .sh) (m2 := .sh) (b := false) (i0 _ ks) (fun z => nomatch z)) (by simp only [isi_b, isi_i, isi_s]; simp [same, Dt.kB, Dt.kI, Dt.kS])
  | lst b =>
    refine gk_seq (no (et_B (ed_isND (m := .sh) e1)) (gk_seq (no (n1 _ kb (isi_b _)) (gk_seq (no (n1 _ ki (isi_i _)) (gk_seq (no (n1 _ ks (isi_s _)) (gk_seq ?_))))))))
    cases a with
    | lst x => exact no ((ya _ kl (isi_l _)).cast (by rw [isi_l]; rfl)) (gk_seq (no (na _ ku (isi_u _)) (hr rfl rfl (same_ll _ _))))
    | _ => exact gk_ifT ((ya _ kl (isi_l _)).cast (by rw [isi_l]; rfl)) (gk_ret hq (ed_bl (m := .sh)) (by simp only [same]))
  | tup b =>
    refine gk_seq (no (et_B (ed_isND (m := .sh) e1)) (gk_seq (no (n1 _ kb (isi_b _)) (gk_seq (no (n1 _ ki (isi_i _)) (gk_seq (no (n1 _ ks (isi_s _)) (gk_seq (no (na _ kl (isi_l _)) (gk_seq ?_))))))))))
    cases a with
    | tup x => exact no ((ya _ ku (isi_u _)).cast (by rw [isi_u]; rfl)) (hr rfl rfl (same_uu _ _))
    | _ => exact gk_ifT ((ya _ ku (isi_u _)).cast (by rw [isi_u]; rfl)) (gk_ret hq (ed_bl (m := .sh)) (by simp only [same]))
/-- what is asked of the two -/
abbrev ptSame : Pt (Dt × Dt × Unit) := .cons .bo rDt inferInstance (.cons .bo rDt inferInstance .nil)
abbrev spSame (n : Nat) : Sp := spV ptSame (fun a => a.2.1.dep ≤ n) (fun a => same a.1 a.2.1) rBl
abbrev tSameRest (K : PySem.W.Frag) (sp : Sp) : TS :=
  tSeq (tIfS (tTest (tOp rNe (tCB (rLenQ K) (tCons (tVar 0) tNil)) (tCB (rLenQ K) (tCons (tVar 1) tNil)))) (tRet (tC (.bl false))) tNext)
  (tSeq (tFor (iRng1 (tCons (tCB (rLenQ K) (tCons (tVar 1) tNil)) tNil)) (gName 2)
    (tIfS (tNot (tB (tCall sp [] E0 (tCons (tOp (rIx K) (tVar 0) (tVar 2)) (tCons (tOp (rIx K) (tVar 1) (tVar 2)) tNil))))) (tRet (tC (.bl false))) tNext))
  (tRet (tC (.bl true))))
theorem lw3 {s t u s' t' : Slot} (h1 : s = s') (h2 : t = t') : Lw [s, t, u] [s', t', .no] := ⟨.inr h1, .inr h2, .inl rfl, trivial⟩
theorem dep_items {d : Dt} {n : Nat} (hs : d.isSeq = true) (h : d.dep ≤ n + 1) : depAll d.items ≤ n := by
  cases d with
  | lst xs => simp only [Dt.dep] at h; exact Nat.le_of_succ_le_succ h
  | tup xs => simp only [Dt.dep] at h; exact Nat.le_of_succ_le_succ h
  | _ => cases hs
theorem same_rest {a d : Dt} {ia id : Mo rDt} {n : Nat} (hq : Rt F0 H0 rt rBl (same a d)) (h1 : a.isSeq = true) (h2 : d.isSeq = true) (he : same a d = sames a.items d.items) (hd : d.dep ≤ n + 1) (hz : d.items.length ≤ 16777216) : Gk F0 H0 (tSameRest K (spSame n) ⟨nx, rt, bk, ct⟩) [.bw rDt ia a, .bw rDt id d, .no] := by
  rw [he] at hq
  have e0 : ∀ F0, Ed F0 H0 (tVar 0) [.bw rDt ia a, .bw rDt id d, .no] .b0 rDt a := fun _ => ed_b rfl
  have e1 : ∀ F0, Ed F0 H0 (tVar 1) [.bw rDt ia a, .bw rDt id d, .no] .b0 rDt d := fun _ => ed_b rfl
  refine gk_seq (gk_if (et_T (ed_ne (m := .sh) (ed_lenD (m := .sh) h1 (e0 _)) (ed_lenD (m := .sh) h2 (e1 _)))) (fun h => ?_) (fun h => ?_))
  · refine gk_ret hq (ed_bl (m := .sh)) ?_
    cases hc : sames a.items d.items with
    | false => rfl
    | true => rw [sames_len hc] at h; simp at h
  have hl : a.items.length = d.items.length := by simp at h; omega
  refine gk_next (gk_seq (gk_run (S := Unit) (fun rem _ => ∃ k : Nat, rem = (rng (d.items.length : Int)).drop k ∧ k ≤ d.items.length ∧ sames a.items d.items = sames (a.items.drop k) (d.items.drop k)) (fun _ G => G.set 2 .no) () (ei_rng1 (ed_lenD (m := .sh) h2 (e1 _)) (by omega) (by omega)) eg_name (lw3 rfl rfl) ⟨0, rfl, Nat.zero_le _, rfl⟩ (fun F1 b x rest s hx hi => ?_) (fun s hi => ?_)))
  · obtain ⟨k, hk, hkl, hs⟩ := hi
    have hkk : k < d.items.length := by
      by_cases c : k < d.items.length
      · exact c
      · rw [List.drop_eq_nil_of_le (by rw [rng_len]; omega)] at hk; cases hk
    have hx' : x = (k : Int) ∧ rest = (rng (d.items.length : Int)).drop (k + 1) := by
      rw [List.drop_eq_getElem_cons (by rw [rng_len]; omega)] at hk
      injection hk with a1 a2
      refine ⟨?_, a2⟩
      have := rng2_get (a := 0) (b := (d.items.length : Int)) (i := k) (by omega)
      unfold rng at a1
      rw [List.getElem?_eq_getElem (by rw [rng2_len]; omega)] at this
      rw [a1, Option.some.inj this]; omega
    obtain ⟨rfl, rfl⟩ := hx'
    rw [sames_drop hl k hkk] at hs
    have ix0 : ixD a.items (k : Int) = a.items.getD k .non := ixD_nat _ _
    have ix1 : ixD d.items (k : Int) = d.items.getD k .non := ixD_nat _ _
    have hmem : (d.items.getD k .non).dep ≤ n := by
      refine Nat.le_trans (dep_mem ?_) (dep_items h2 hd)
      rw [List.getD_eq_getElem?_getD, List.getElem?_eq_getElem hkk]
      exact List.getElem_mem _
    refine gk_if (et_not (et_B (ed_call (ea_cons (Ed.bo (ed_ixDt h1 (ed_b (im := ia) rfl) (ed_v (i := 2) rfl) ⟨by omega, by omega⟩)) (ea_cons (Ed.bo (ed_ixDt h2 (ed_b (im := id) rfl) (ed_v (i := 2) rfl) ⟨by omega, by omega⟩)) ea_nil)) (Pt.now _) (by show (ixD d.items (k : Int)).dep ≤ n; rw [ix1]; exact hmem)))) (fun h => ?_) (fun h => ?_)
    · refine gk_ret (hq.up b) (ed_bl (m := .sh)) ?_
      simp only [Bool.not_eq_true', ix0, ix1] at h
      rw [hs, h]; rfl
    · refine gk_next (gk_again () (lw3 rfl rfl) ⟨k + 1, rfl, hkk, ?_⟩)
      simp only [Bool.not_eq_false', ix0, ix1] at h
      rw [hs, h]; rfl
  · obtain ⟨k, hk, hkl, hs⟩ := hi
    refine gk_ret hq (ed_bl (m := .sh)) ?_
    have hk' : d.items.length ≤ k := by
      have := congrArg List.length hk
      rw [List.length_drop, rng_len] at this
      simp at this; omega
    rw [hs, List.drop_eq_nil_of_le (by omega), List.drop_eq_nil_of_le (by omega)]
    simp [sames]
theorem gk_sameR {a d : Dt} {ia id : Mo rDt} {n : Nat} (hq : Rt F0 H0 rt rBl (same a d)) (h1 : a.isSeq = true) (h2 : d.isSeq = true) (he : same a d = sames a.items d.items) (hd : d.dep ≤ n + 1) : Gk F0 H0 (tSameRest K (spSame n) ⟨nx, rt, bk, ct⟩) [.bw rDt ia a, .bw rDt id d, .no] := fun σ F H E => by
  obtain ⟨v, hx, ok⟩ := E.bw_at (i := 1) rfl
  have hz : d.items.length ≤ 16777216 := by
    cases d with
    | lst xs => unfold rDt at ok; obtain ⟨p, vs, _, _, h3, _⟩ := ok; exact h3
    | tup xs => unfold rDt at ok; obtain ⟨p, vs, _, _, h3, _⟩ := ok; exact h3
    | _ => cases h2
  exact same_rest hq h1 h2 he hd hz σ F H E
theorem same_d {α : Type} {r : Rp α} [t : Tod r] [DecidableEq α] (a b : α) : same (t.d a) (t.d b) = decide (a = b) := by
  by_cases h : a = b
  · subst h; rw [decide_eq_true rfl]; exact (same_iff _ _).mpr rfl
  · rw [decide_eq_false h]
    cases e : same (t.d a) (t.d b) with
    | false => rfl
    | true => exact absurd (t.inj ((same_iff _ _).mp e)) h
/-- a call of it -/
theorem ed_same {α : Type} {r : Rp α} [ht : Tod r] [DecidableEq α] {k n : Nat} [hd : Dep r k] {a b : α} (ha : Ed F0 H0 ta G m1 r a) (hb : Ed F0 H0 tb G m2 r b) (hn : k ≤ n := by decide) : Ed F0 H0 (tCall (spSame n) [] E0 (tCons ta (tCons tb tNil))) G .sh rBl (decide (a = b)) :=
  (ed_call (ea_cons (Ed.bo ha.dt) (ea_cons (Ed.bo hb.dt) ea_nil)) (Pt.now _) (Nat.le_trans (hd.le b) hn)).cast (same_d a b)
end
end LK
set_option Elab.async false
set_option linter.all false
set_option maxRecDepth 100000
set_option maxHeartbeats 4000000
set_option autoImplicit false
namespace LK
open PySem L2 PyProof.Rows PySem.Spec
/-- the list at q holds xs -/
def AtL {α : Type} (r : Rp α) (F H : Hp) (q : Addr) (xs : List α) : Prop := ∃ vs, H q = some (.lst vs) ∧ xs.length ≤ 16777216 ∧ Paired (r F) vs xs
theorem AtL.mo {α : Type} {r : Rp α} [h : Mo r] {F F' H H' : Hp} {q : Addr} {xs : List α} (e : Exs F F') (k : H' q = H q) (a : AtL r F H q xs) : AtL r F' H' q xs := by
  obtain ⟨vs, h1, h2, h3⟩ := a
  exact ⟨vs, by rw [k]; exact h1, h2, pmap (fun _ _ z => h.mo e z) h3⟩
theorem pmem {α β : Type} {R S : α → β → Prop} : ∀ {xs : List α} {ys : List β}, (∀ a b, a ∈ xs → R a b → S a b) → Paired R xs ys → Paired S xs ys
  | _, _, _, .nil => .nil
  | _, _, f, .cons h t => .cons (f _ _ List.mem_cons_self h) (pmem (fun a b ha hr => f a b (List.mem_cons_of_mem _ ha) hr) t)
theorem pin {α β : Type} {R : α → β → Prop} : ∀ {xs : List α} {ys : List β}, Paired R xs ys → ∀ a ∈ xs, ∃ b, R a b
  | _, _, .cons h t, a, ha => by
    rcases List.mem_cons.mp ha with e | e
    · subst e; exact ⟨_, h⟩
    · exact pin t a e
/-- an own list of own lists -/
def mLL {α : Type} (r : Rp α) (xss : List (List α)) : Mu := fun F H p S => ∃ qs, S = p :: qs ∧ (p :: qs).Nodup ∧ H p = some (.lst (qs.map V.ref)) ∧ xss.length ≤ 16777216 ∧ Paired (AtL r F H) qs xss
instance {α : Type} (r : Rp α) [h : Mo r] (xss : List (List α)) : MoM (mLL r xss) := ⟨fun e k ⟨qs, h1, h2, h3, h4, h5⟩ => ⟨qs, h1, h2, by rw [k _ (by rw [h1]; simp)]; exact h3, h4, pmem (fun q xs hq a => a.mo e (k q (by rw [h1]; simp [hq]))) h5⟩,
  fun ⟨qs, h1, h2, h3, h4, h5⟩ a ha => by
    rw [h1] at ha
    rcases List.mem_cons.mp ha with e | e
    · rw [e, h3]; exact fun z => nomatch z
    · obtain ⟨b, vs, z, _⟩ := pin h5 a e
      rw [z]; exact (fun z => nomatch z),
  fun ⟨qs, h1, h2, h3, h4, h5⟩ a ha o eo => by
    rw [h1] at ha
    rcases List.mem_cons.mp ha with e | e
    · rw [e, h3] at eo; cases eo; rfl
    · obtain ⟨b, vs, z, _⟩ := pin h5 a e
      rw [z] at eo; cases eo; rfl⟩
section
variable {F0 H0 : Hp} {G G' : List Slot} {m m1 m2 : Md} {ta tb tc te tl : TE} {tt : TT} {t u : TS} {K : PySem.W.Frag} {wi : TI} {g : TG} {nx : L2.St → Hp → Prop} {rt : VK} {bk ct : L2.St → Hp → Prop}
theorem at_set {α : Type} {r : Rp α} [h : Mo r] {F H : Hp} {q : Addr} {vs : List V} {ys : List α} (hy : ys.length ≤ 16777216) (hv : Paired (r F) vs ys) : ∀ {qs : List Addr} {xss : List (List α)} (n : Nat), qs.Nodup → qs[n]? = some q → Paired (AtL r F H) qs xss → Paired (AtL r F (upd H q (.lst vs))) qs (xss.set n ys)
  | _, _, n, _, hn, .nil => by simp at hn
  | x1 :: l1, y1 :: l2, 0, nd, hn, .cons a1 t1 => by
    have e : x1 = q := Option.some.inj hn
    subst e
    obtain ⟨d1, d2⟩ := List.nodup_cons.mp nd
    exact .cons ⟨vs, upd_same, hy, hv⟩ (pmem (fun b xs hb a => a.mo (Ex.refl F).s (upd_ne (fun z => d1 (z ▸ hb)))) t1)
  | x1 :: l1, y1 :: l2, n + 1, nd, hn, .cons a1 t1 => by
    obtain ⟨d1, d2⟩ := List.nodup_cons.mp nd
    have hn : l1[n]? = some q := hn
    have hq : q ∈ l1 := List.mem_of_getElem? hn
    exact .cons (a1.mo (Ex.refl F).s (upd_ne (fun z => d1 (z ▸ hq)))) (at_set hy hv n d2 hn t1)
end
end LK
set_option Elab.async false
set_option linter.all false
set_option maxRecDepth 100000
set_option maxHeartbeats 4000000
set_option autoImplicit false
namespace LK
open PySem L2 PyProof.Rows PySem.Spec
class Da {α : Type} (r : Rp α) where
  d : α → PyData
  dp : ∀ {F H : Hp} {K : PySem.W.Frag} {v : V} {a : α}, r F v a → Ex F H → Dp K H v (d a)
  lay : ∀ {F : Hp} {v : V} {a : α}, r F v a → (d a).canLay0 = true
  dep : Nat
  dep_le : ∀ a, (d a).depth ≤ dep
  eqv : ∀ a b, PyData.eqv (d a) (d b) = true ↔ a = b
instance : Da rInt where
  d := .int
  dp h _ := by rw [show _ = _ from h]; exact .int _
  lay _ := rfl
  dep := 0
  dep_le _ := Nat.le_refl _
  eqv a b := by simp only [PyData.eqv]; exact beq_iff_eq
instance : Da rBl where
  d := .bool
  dp h _ := by rw [show _ = _ from h]; exact .bl _
  lay _ := rfl
  dep := 0
  dep_le _ := Nat.le_refl _
  eqv a b := by simp only [PyData.eqv]; exact beq_iff_eq
instance : Da rTx where
  d a := .str ⟨a.toArray⟩
  dp h _ := by rw [h.1]; exact .str _
  lay {F v a} h := by
    show PyData.strOk ⟨a.toArray⟩ = true
    unfold PyData.strOk
    simp only [List.all_toArray, List.all_eq_true, decide_eq_true_eq]
    exact h.2.2
  dep := 0
  dep_le _ := Nat.le_refl _
  eqv a b := by simp only [PyData.eqv]; rw [beq_iff_eq]; simp
section
variable {α β : Type} {r : Rp α} {s : Rp β} [A : Da r] [B : Da s]
theorem dp_all {F H : Hp} {K : PySem.W.Frag} (e : Ex F H) : ∀ {vs : List V} {xs : List α}, Paired (r F) vs xs → DpAll K H vs (xs.map A.d)
  | _, _, .nil => .nil
  | _, _, .cons h t => .cons (A.dp h e) (dp_all e t)
theorem lay_all {F : Hp} : ∀ {vs : List V} {xs : List α}, Paired (r F) vs xs → PyData.canLayAll0 (xs.map A.d) = true
  | _, _, .nil => rfl
  | _, _, .cons h t => by
    rw [List.map_cons, PyData.canLayAll0, A.lay h, lay_all t]; rfl
theorem depth_all : ∀ xs : List α, PyData.depthAll (xs.map A.d) ≤ A.dep
  | [] => Nat.zero_le _
  | x :: xs => by
    rw [List.map_cons, PyData.depthAll]
    exact Nat.max_le.mpr ⟨A.dep_le x, depth_all xs⟩
theorem eqv_all : ∀ xs ys : List α, PyData.eqvAll (xs.map A.d) (ys.map A.d) = true ↔ xs = ys
  | [], [] => by simp [PyData.eqvAll]
  | [], _ :: _ => by simp [PyData.eqvAll]
  | _ :: _, [] => by simp [PyData.eqvAll]
  | x :: xs, y :: ys => by
    rw [List.map_cons, List.map_cons, PyData.eqvAll, Bool.and_eq_true, A.eqv x y, eqv_all xs ys, List.cons.injEq]
instance : Da (rLst r) where
  d xs := .list (xs.map A.d)
  dp h e := by
    obtain ⟨p, vs, rfl, h1, h2, h3⟩ := h
    exact .lst (SqL.of (e _ _ h1)) (dp_all e h3)
  lay h := by
    obtain ⟨p, vs, rfl, h1, h2, h3⟩ := h
    exact lay_all h3
  dep := A.dep + 1
  dep_le xs := by
    show PyData.depthAll _ + 1 ≤ _
    have := depth_all (A := A) xs
    omega
  eqv a b := by simp only [PyData.eqv]; exact eqv_all a b
instance : Da (rTup r) where
  d xs := .tuple (xs.map A.d)
  dp h e := by
    obtain ⟨p, vs, rfl, h1, h2, h3⟩ := h
    exact .tup (SqT.of (e _ _ h1)) (dp_all e h3)
  lay h := by
    obtain ⟨p, vs, rfl, h1, h2, h3⟩ := h
    exact lay_all h3
  dep := A.dep + 1
  dep_le xs := by
    show PyData.depthAll _ + 1 ≤ _
    have := depth_all (A := A) xs
    omega
  eqv a b := by simp only [PyData.eqv]; exact eqv_all a b
instance : Da (rPr r s) where
  d x := .tuple [A.d x.1, B.d x.2]
  dp h e := by
    obtain ⟨p, u, w, rfl, h1, h2, h3⟩ := h
    exact .tup (SqT.of (e _ _ h1)) (.cons (A.dp h2 e) (.cons (B.dp h3 e) .nil))
  lay h := by
    obtain ⟨p, u, w, rfl, h1, h2, h3⟩ := h
    show PyData.canLayAll0 [_, _] = true
    rw [PyData.canLayAll0, PyData.canLayAll0, PyData.canLayAll0, A.lay h2, B.lay h3]; rfl
  dep := max A.dep B.dep + 1
  dep_le x := by
    show max _ (max _ 0) + 1 ≤ _
    have h1 := A.dep_le x.1
    have h2 := B.dep_le x.2
    omega
  eqv a b := by
    obtain ⟨a1, a2⟩ := a
    obtain ⟨b1, b2⟩ := b
    simp only [PyData.eqv, PyData.eqvAll, Bool.and_true, Bool.and_eq_true, A.eqv, B.eqv, Prod.mk.injEq]
end
section
variable {F0 H0 : Hp} {G : List Slot} {m m1 m2 : Md} {ta tb te : TE} {K : PySem.W.Frag}
theorem da_shaped {α : Type} {r : Rp α} [A : Da r] (hd : A.dep ≤ 64) {F : Hp} {v : V} {a : α} (h : r F v a) : SeqAt.shaped (A.d a) = true := by
  unfold SeqAt.shaped
  rw [A.lay h, decide_eq_true (Nat.le_trans (A.dep_le a) hd)]; rfl
theorem ed_neQ {α : Type} {r : Rp α} [DecidableEq α] [Mo r] [A : Da r] {x y : α} (hx : Ed F0 H0 ta G m1 r x) (hy : Ed F0 H0 tb G m2 r y) (hd : A.dep ≤ 64 := by decide) : Ed F0 H0 (tOp (rNeD K) ta tb) G m rBl (!decide (x = y)) :=
  ed_bin hx hy fun v w F H g0 hv hw Q q =>
    ⟨_, _, A.dp hv (pk_now g0), A.dp hw (pk_now g0), da_shaped hd hv, da_shaped hd hw, q _ F H (Gr.refl g0.fh) (by show V.bl _ = V.bl _; congr 2; rw [Bool.eq_iff_iff, A.eqv, decide_eq_true_eq])⟩
end
section
variable {X : Cx} (K : PySem.W.Frag)
theorem kJoin {o e : Expr} {to te : TE} {apos pos : Pos} (ho : PE X o to) (he : PE X e te) (h : X.K = K := by rfl) (hs : starEach [e] X.env = [(false, eval e X.env)] := by rfl) (hbase : attributeBase o "join" X.env (eval o X.env) = eval o X.env := by rfl) (hline : (apos.endLine == pos.line) = true := by rfl) :
    PE X (.Call (.Attribute o "join" apos) [e] [] pos) (tM1 (rJoin K) to te) := by subst h; exact pe_join ho he hs hbase hline
end
end LK
namespace LK
open PySem L2
end LK
set_option Elab.async false
set_option linter.all false
set_option maxRecDepth 100000
set_option maxHeartbeats 4000000
set_option autoImplicit false
namespace LKX
open PySem PySem.W PySem.Calls PyProof.Rows PySem.HandSPX
section
variable {prog : Program} {w : World} {A : Around} {E : Value → Shared → Prop} {h : Heap} {g : Array GenState} {d : Drawn} {t : Nat} {os : OsState}
variable {nm q : Str} {C N : Addr} {bs bm : List Value} {hdct : Bool} {sn : List Str} {sub : List Value} {ab : Bool} {col : Option Bool} {dd : Option Addr} {k0 k1 k2 k3 k5 : Option Value}
/-- the bound ValueError.__init__ is called -/
theorem call_bwV {u e t0 : Addr} {rest : List Value} {Q : Value → Shared → Prop}
    (hC : h.get? C = some (excClassObj nm q C N bs bm hdct sn sub ab col dd k0 k1 k2 k3 k5 "ValueError.__new__")) (he : h.get? e = some (excO C t0)) (hu : h.get? u = some (kxs_mw "ValueError.__init__" e)) (hrest : rest.length ≤ sizeLine)
    (hq : ∀ h' t1, (∀ b o, b ≠ e → h.get? b = some o → h'.get? b = some o) → h'.get? e = some (excO C t1) → Q .none ⟨h', g, d, t, os⟩) :
    wpAny (model prog w) A (call (.ref u) rest) Q E ⟨h, g, d, t, os⟩ := by
  refine wpAny_call (codeAny_of_tree ?_)
  show wpAny _ A.in1 (callAny (.ref u) ⟨rest, []⟩) _ _ _
  simp only [callAny]
  refine wpAny_bind (wpAny_load hu ?_)
  simp only [kxs_mw, show (Value.type "method-wrapper" == Value.type "method" || Value.type "method-wrapper" == Value.type "builtin_function_or_method" || Value.type "method-wrapper" == Value.type "method-wrapper") = true by decide, if_true]
  refine W.KFB.if_so (by decide) ?_
  refine wpAny_bind (PySem.ESX.check_bound F.excBase_ValueError hC he rfl ?_)
  refine wpAny_bind (wpAny_pure (wpAny_pure ?_))
  refine ⟨Code.quiet_builtin _ (by decide +kernel), codeAny_builtin F.excBase_ValueError.initEntry ?_⟩
  rw [Around.under_plainId F.excBase_ValueError.init.plain _]
  wp_walk
  refine hq _ h.objs.size (fun b o hb ho => ?_) ?_
  · rw [Heap.get?_update_other _ _ (Ne.symm hb)]
    exact Heap.get?_push_of_some _ ho
  · rw [Heap.get?_update_self _ (Heap.get?_push_of_some _ he) rfl]
    rfl
end
/-- what the written part says of a class C whose __init__ stands at fI -/
structure SupC (prog : Program) (K : Frag) (mg : Str → Option Value) (C fI : Addr) (x : Str) (qual : Str) (params : Arguments) (body : List Stmt) (scope : Scope) (cda cc : Addr) : Prop where
  oex : L2.OexC K C
  fn : ∃ (oc : Value) (od : Option Addr) (kV doc pm : Value) (an : Option Addr) (ct : Value) (osl : Array (Option Value)), K.lookup fI = some ⟨oc, od, .func (ksFn x qual params body scope .none kV doc pm an (.ref cda) ct cc), osl⟩
  cod : codeIn K (.ref cda) qual = true
  fil : ∃ (ccl : Value) (cdd : Option Addr) (vs : Array Value) (ccs : Array (Option Value)) (file : Str) (tf : Tok), K.lookup cda = some ⟨ccl, cdd, .fields vs, ccs⟩ ∧ vs[2]? = some (.str file tf) ∧ ((prog.main.file : Str) == file) = true
  cel : ∃ (cl : Value) (cld : Option Addr) (csl : Array (Option Value)), K.lookup cc = some ⟨cl, cld, .cell (some (.ref C)), csl⟩
  sup : ks_superIn K C C "__init__" = some (some (.builtin "ValueError.__init__"))
  self : mroIn K C (.ref C) = some true
  ve : subIn K (.ref C) (.type "ValueError") = some true
  nosup : mg "super" = none
  nothird : nsIn K cStatics "thirdparty.any" = some none
  top : (prog.main.scope.names.lookup ("super" : Str)).isSome = false
section
variable {prog : Program} {w : World} {A : Around} {E : Value → Shared → Prop} {h : Heap} {g : Array GenState} {d : Drawn} {t : Nat} {os : OsState} {K : Frag} {mg m : Str → Option Value} {C fI cda cc e t0 L : Addr} {x qual : Str} {params : Arguments} {body : List Stmt} {scope : Scope}
theorem super_init {p0 p1 p2 p3 p4 p5 : Pos} {k : Nat} {c : Str} {ar : Arg} {pl : Sem Bool} {Q : Flow → Shared → Prop} (S : SupC prog K mg C fI x qual params body scope cda cc) (X : K.In h) (gl : h.Ns mainGlobals mg) (bl : ∃ mb, h.Ns builtinsNs mb ∧ ∀ x : Str, x ≠ "__name__" → mb x = bootBuiltins x)
    (hns : h.Ns L m) (hp : (params.posonlyargs ++ params.args).head? = some ar) (hv : m ar.arg = some (.ref e)) (he : h.get? e = some (excO C t0))
    (hks : scope.names.lookup ("super" : Str) = some .globalImplicit) (hkc : scope.names.lookup ("__class__" : Str) = some .free) (hka : scope.names.lookup ar.arg = some .local) (hk : scope.kind = .function)
    (hev : eval (.Call (.Attribute (.Call (.Name "super" p0) [] [] p1) "__init__" p2) [.Constant (.str c) k p3] [] p4) (ksEnv qual scope L fI (.ref cda) cc) = (do
      let ov ← attributeBase (.Call (.Name "super" p0) [] [] p1) "__init__" (ksEnv qual scope L fI (.ref cda) cc) (eval (.Call (.Name "super" p0) [] [] p1) (ksEnv qual scope L fI (.ref cda) cc))
      standAt p2.atName
      let (f, first) ← holding [ov] (getMethod ov "__init__" pl)
      callWith p4 f first (backTo p4 (starEach [.Constant (.str c) k p3] (ksEnv qual scope L fI (.ref cda) cc))) []))
    (hi : interactive (ksEnv qual scope L fI (.ref cda) cc) = false) (hs : swapsWith (.Call (.Attribute (.Call (.Name "super" p0) [] [] p1) "__init__" p2) [.Constant (.str c) k p3] [] p4) none p5.line (ksEnv qual scope L fI (.ref cda) cc) = pure false)
    (hse : starEach [.Constant (.str c) k p3] (ksEnv qual scope L fI (.ref cda) cc) = (false, eval (.Constant (.str c) k p3) (ksEnv qual scope L fI (.ref cda) cc)) :: starEach [] (ksEnv qual scope L fI (.ref cda) cc)) 
    (hq : ∀ h' t' t1, (∀ b o, b ≠ e → h.get? b = some o → h'.get? b = some o) → h'.get? e = some (excO C t1) → Q .next ⟨h', g, d, t', os⟩) :
    _root_.PySem.wpAt (model prog w) A (.func body (ksEnv qual scope L fI (.ref cda) cc)) (exec (.Expr (.Call (.Attribute (.Call (.Name "super" p0) [] [] p1) "__init__" p2) [.Constant (.str c) k p3] [] p4) p5) (ksEnv qual scope L fI (.ref cda) cc)) Q E ⟨h, g, d, t, os⟩ := by
  obtain ⟨oc, od, kV, doc, pm, an, ct, osl, hf⟩ := S.fn
  obtain ⟨ccl, cdd, vs, ccs, file, tf, hcode, hvs, hfile⟩ := S.fil
  obtain ⟨cl, cld, csl, hcell⟩ := S.cel
  obtain ⟨nm, q, N, bs, bm, sn, sub, ab, col, dd, k0, k1, k2, k3, k5, hC, hbm⟩ := S.oex.cls
  obtain ⟨mb, b1, b2⟩ := bl
  have I : InstAt h e (excO C t0) C none := ⟨he, rfl, rfl, trivial⟩
  refine ks_wpAt_Expr_any (ks_wpAt_MethodCall (pl := pl) ?_ hev) hi hs
  refine ks_wpAt_super_base (env := ksEnv qual scope L fI (.ref cda) cc) hks hkc rfl rfl (X _ _ hf) rfl hp rfl (X _ _ hcode) rfl hvs hfile S.top ?_
  refine ks_loadName_global hk hks (loadGlobal_builtin (env := ksEnv qual scope L fI (.ref cda) cc) gl S.nosup b1 ((b2 _ (by decide)).trans (show bootBuiltins "super" = some (.type "super") from PyProof.Rows.Boot.super)) ⟨rfl, ?_⟩)
  refine wpAny_loadName_free hk hkc rfl ⟨_, X _ _ hcell, rfl⟩ ?_
  refine wpAny_loadName_local hk hka hns hv ?_
  refine ks_wpAny_isType_cls (X _ _ hC) rfl ⟨rfl, ?_⟩
  refine ks_wpAny_call_super (X _ _ hC) rfl he rfl (fun c z => by cases z) (looks_mroIn X S.self) (fun h1 e1 u1 => ?_)
  have X1 : K.In h1 := X.keeps u1
  have I1 : InstAt h1 e (excO C t0) C none := ⟨u1 _ _ he, rfl, rfl, trivial⟩
  have hcl : clsIn K C = some { name := nm, bases := bs, mro := .ref C :: bm, ns := N, qualname := q, hasDict := true, slotNames := sn, subclasses := sub, abstract := ab, collection := col, hasDel := false } := by unfold clsIn; rw [hC] <;> rfl
  have hm := S.sup
  unfold ks_superIn at hm
  rw [hcl] at hm
  refine kxs_getMethod kxs_ValueError e1 (looks_opaque X1 S.nothird) (l₀ := .ref C :: bm) (fun A Q E s k q => wpAny_bind ((looks_clsIn X1 hcl) A _ E s k (wpAny_pure q))) rfl X1 hm (I1.type.andThen (looks_subIn X1 S.ve)) (ks_ne X1 I1 hcl) rfl ?_
  have u2 : ∀ b o, h1.get? b = some o → (h1.push (kxs_mw "ValueError.__init__" e)).get? b = some o := fun b o z => Heap.get?_push_of_some _ z
  rw [hse]
  refine kxs_callWith (i := "ValueError.__init__") (x := e) rfl (evalArgs_plain ?_)
  refine args_cons (Constant_str (args_nil ⟨Heap.get?_push_size _ rfl, ?_⟩)) hse
  refine call_bwV (rest := [.str c (t + 1)]) (u2 _ _ (X1 _ _ hC)) (u2 _ _ (u1 _ _ he)) (Heap.get?_push_size _ rfl) (by show 1 ≤ sizeLine; decide) (fun h' t1 k e' => ?_)
  exact hq h' _ t1 (fun b o hb z => k b o hb (u2 _ _ (u1 _ _ z))) e'
/-- a field is kept: the first one -/
theorem fld_new {env : Env} {p1 p2 p3 p4 : Pos} {f xs xp : Str} {u : Value} {Q : Flow → Shared → Prop} (T : L2.OexC K C) (X : K.In h) (hns : h.Ns env.locals m) (hk : env.scope.kind = .function)
    (l1 : env.kindOf xs = some .local) (v1 : m xs = some (.ref e)) (l2 : env.kindOf xp = some .local) (v2 : m xp = some u) (d1 : (xs == ("__debug__" : Str)) = false) (d2 : (xp == ("__debug__" : Str)) = false)
    (he : h.get? e = some (excO C t0)) (hno : findIn K (.ref C) f = some none)
    (hs : swapsWith (.Name xp p4) (some (.Attribute (.Name xs p1) f p2)) p3.line env = pure false)
    (hq : ∀ h' t' dx, (∀ b o, b ≠ e → h.get? b = some o → h'.get? b = some o) → h.objs.size ≤ dx → dx ≠ e →
      h'.get? e = some { cls := .ref C, dict := some dx, data := .fields #[.ref t0, .none, .none, .none, .bool false, .none] } → h'.Ns1 dx (fun y => if y = f then some u else none) → Q .next ⟨h', g, d, t', os⟩) :
    wpAny (model prog w) A (exec (.Assign [.Attribute (.Name xs p1) f p2] (.Name xp p4) p3) env) Q E ⟨h, g, d, t, os⟩ := by
  obtain ⟨nm, q, N, bs, bm, sn, sub, ab, col, dd, k0, k1, k2, k3, k5, hC, hbm⟩ := T.cls
  have hcl : clsIn K C = some { name := nm, bases := bs, mro := .ref C :: bm, ns := N, qualname := q, hasDict := true, slotNames := sn, subclasses := sub, abstract := ab, collection := col, hasDel := false } := by unfold clsIn; rw [hC] <;> rfl
  refine plainObj_wpAny_Assign_Attribute (wpAny_Name (wpAny_loadName_local hk l2 hns v2 (wpAny_Name (wpAny_loadName_local hk l1 hns v1 ?_) d1)) d2) hs
  refine set_plain X (ox := excO C t0) (od := none) ⟨he, rfl, rfl, trivial⟩ T.sa ?_
  exact exc_osa X he hcl (show refsVE (.ref C :: bm) = true from hbm) rfl hno (fun h' tk' dx k dn dne hx hn => hq h' _ dx k dn dne hx hn)
/-- what a made exception looks like -/
def Made (h h' : Heap) (e C : Addr) (mA : Str → Option Value) : Prop := ∃ dx t1, (∀ b o, b ≠ e → h.get? b = some o → h'.get? b = some o) ∧ h.objs.size ≤ dx ∧ dx ≠ e ∧
  h'.get? e = some { cls := .ref C, dict := some dx, data := .fields #[.ref t1, .none, .none, .none, .bool false, .none] } ∧ h'.Ns1 dx mA
variable {R : Result → Shared → Prop}
/-- the whole __init__ with one field -/
theorem init1 {s0 : Stmt} {p0 p1 p2 p3 p4 p5 q1 q2 q3 q4 : Pos} {k : Nat} {c f xs xp : Str} {ar : Arg} {pl : Sem Bool} {u : Value} (S : SupC prog K mg C fI x qual params [.Expr (.Call (.Attribute (.Call (.Name "super" p0) [] [] p1) "__init__" p2) [.Constant (.str c) k p3] [] p4) p5, .Assign [.Attribute (.Name xs q1) f q2] (.Name xp q4) q3] scope cda cc) (X : K.In h) (gl : h.Ns mainGlobals mg) (bl : ∃ mb, h.Ns builtinsNs mb ∧ ∀ x : Str, x ≠ "__name__" → mb x = bootBuiltins x)
    (lim : h.NoLimit) (room : A.depth < recursionLimit) (he : h.get? e = some (excO C t0)) (hke : K.lookup e = none)
    (hbind : ∀ (kV doc pm : Value) (an : Option Addr) (ct : Value), BindsTo (⟨h, g, d, t, os⟩ : Shared) (ksFn x qual params [.Expr (.Call (.Attribute (.Call (.Name "super" p0) [] [] p1) "__init__" p2) [.Constant (.str c) k p3] [] p4) p5, .Assign [.Attribute (.Name xs q1) f q2] (.Name xp q4) q3] scope .none kV doc pm an (.ref cda) ct cc) ⟨[.ref e, u], []⟩ [(xs, .ref e), (xp, u)])
    (hp : (params.posonlyargs ++ params.args).head? = some ar) (har : ar.arg = xs) (hne : xs ≠ xp)
    (hks : scope.names.lookup ("super" : Str) = some .globalImplicit) (hkc : scope.names.lookup ("__class__" : Str) = some .free) (hka : scope.names.lookup xs = some .local) (hkb : scope.names.lookup xp = some .local) (hk : scope.kind = .function)
    (hcell : ∀ x ∈ scope.names, x.2 ≠ .cell) (hco : scope.isCoroutine = false) (hgen : scope.isGenerator = false) (hno : findIn K (.ref C) f = some none)
    (hev : ∀ L, eval (.Call (.Attribute (.Call (.Name "super" p0) [] [] p1) "__init__" p2) [.Constant (.str c) k p3] [] p4) (ksEnv qual scope L fI (.ref cda) cc) = (do
      let ov ← attributeBase (.Call (.Name "super" p0) [] [] p1) "__init__" (ksEnv qual scope L fI (.ref cda) cc) (eval (.Call (.Name "super" p0) [] [] p1) (ksEnv qual scope L fI (.ref cda) cc))
      standAt p2.atName
      let (f, first) ← holding [ov] (getMethod ov "__init__" pl)
      callWith p4 f first (backTo p4 (starEach [.Constant (.str c) k p3] (ksEnv qual scope L fI (.ref cda) cc))) []))
    (hi : ∀ L, interactive (ksEnv qual scope L fI (.ref cda) cc) = false) (hs : ∀ L, swapsWith (.Call (.Attribute (.Call (.Name "super" p0) [] [] p1) "__init__" p2) [.Constant (.str c) k p3] [] p4) none p5.line (ksEnv qual scope L fI (.ref cda) cc) = pure false)
    (hse : ∀ L, starEach [.Constant (.str c) k p3] (ksEnv qual scope L fI (.ref cda) cc) = (false, eval (.Constant (.str c) k p3) (ksEnv qual scope L fI (.ref cda) cc)) :: starEach [] (ksEnv qual scope L fI (.ref cda) cc))
    (hs2 : ∀ L, swapsWith (.Name xp q4) (some (.Attribute (.Name xs q1) f q2)) q3.line (ksEnv qual scope L fI (.ref cda) cc) = pure false)
    (d1 : (xs == ("__debug__" : Str)) = false) (d2 : (xp == ("__debug__" : Str)) = false)
    (hq : ∀ h' t', Made h h' e C (fun y => if y = f then some u else none) → R (.ok (.ret .none)) ⟨h', g, d, t', os⟩) :
    codeAny (model prog w) A (.call (.ref fI) ⟨[.ref e, u], []⟩) R ⟨h, g, d, t, os⟩ := by
  obtain ⟨oc, od, kV, doc, pm, an, ct, osl, hf⟩ := S.fn
  refine ks_codeAny_call_defAt (binds := [(xs, .ref e), (xp, u)]) room (X _ _ hf) rfl lim (codeRec_of X S.cod) rfl (hbind _ _ _ _ _) hcell ?_ (fun h1 hns k1 => ?_) hco hgen hk
  · intro y hy
    rcases List.mem_cons.mp hy with e1 | hy
    · subst e1; exact hka
    · rcases List.mem_cons.mp hy with e1 | hy
      · subst e1; exact hkb
      · cases hy
  have X1 : K.In h1 := X.keeps k1
  have v1 : (List.lookup xs [(xs, Value.ref e), (xp, u)].reverse) = some (.ref e) := by
    show List.lookup xs [(xp, u), (xs, Value.ref e)] = _
    rw [List.lookup_cons, show (xs == xp) = false by simpa using hne, List.lookup_cons, show (xs == xs) = true by simp]
  have v2 : (List.lookup xp [(xs, Value.ref e), (xp, u)].reverse) = some u := by
    show List.lookup xp [(xp, u), (xs, Value.ref e)] = _
    rw [List.lookup_cons, show (xp == xp) = true by simp]
  obtain ⟨mb, b1, b2⟩ := bl
  refine ks_wpAt_execs_cons (super_init (m := fun y => List.lookup y [(xs, Value.ref e), (xp, u)].reverse) S X1 (gl.keeps k1) ⟨mb, b1.keeps k1, b2⟩ hns hp (by rw [har]; exact v1) (k1 _ _ he) hks hkc (by rw [har]; exact hka) hk (hev _) (hi _) (hs _) (hse _) (fun h2 t2 t3 k2 e2 => ?_))
  have X2 : K.In h2 := fun b o z => k2 b o (fun q => by rw [q, hke] at z; cases z) (X1 b o z)
  have hLe : h.objs.size ≠ e := fun q => absurd (Heap.lt_size he) (by rw [← q]; exact Nat.lt_irrefl _)
  have hns2 : h2.Ns h.objs.size (fun y => List.lookup y [(xs, Value.ref e), (xp, u)].reverse) := by
    obtain ⟨oL, es, ep, hL, r⟩ := hns
    exact ⟨oL, es, ep, k2 _ _ hLe hL, r⟩
  have sz : h.objs.size ≤ h2.objs.size := by
    obtain ⟨oL, es, ep, hL, r⟩ := hns2
    exact Nat.le_of_lt (Heap.lt_size hL)
  refine ks_wpAt_execs_cons (wpAt_of_wpAny ?_)
  refine fld_new (m := fun y => List.lookup y [(xs, Value.ref e), (xp, u)].reverse) S.oex X2 hns2 hk hka v1 hkb v2 d1 d2 e2 hno (hs2 _) (fun h3 t4 dx k3 n3 ne3 e3 hd3 => ?_)
  refine wpAt_of_wpAny (wpAny_pure ?_)
  exact hq h3 _ ⟨dx, t3, fun b o hb z => k3 b o hb (k2 b o hb (k1 b o z)), Nat.le_trans sz n3, ne3, e3, hd3⟩
end
end LKX
set_option Elab.async false
set_option linter.all false
set_option maxRecDepth 100000
set_option maxHeartbeats 4000000
set_option autoImplicit false
namespace LKX
open PySem PySem.W PySem.Calls PyProof.Rows PySem.HandSPX L2
/-- the reading: what C(e) makes -/
def tMk1 (C : Addr) (f : Str) (ta : TA) : L2.St → Hp → XK → Prop := fun σ H Q => ta σ H fun vs H1 => ∃ y, vs = [y] ∧ ∀ dx, H1 dx = none → Q (.ref C) (some dx) (upd H1 dx (.xd [(f, y)]))
section
variable {X : Cx} {x : Str} {C fI : Addr} {f : Str} {e1 : Expr} {ta : TA} {p pos : Pos}
/-- what init1 gives, as a promise of the class -/
def Ini1 (prog : Program) (w : World) (K : Frag) (mg : Str → Option Value) (C fI : Addr) (f : Str) : Prop :=
  ∀ (A : Around) (R : Result → Shared → Prop) (h : Heap) (g : Array GenState) (d : Drawn) (t : Nat) (os : OsState) (e t0 : Addr) (u : Value), K.In h → h.Ns mainGlobals mg → (∃ mb, h.Ns builtinsNs mb ∧ ∀ x : Str, x ≠ "__name__" → mb x = bootBuiltins x) → h.NoLimit → A.depth < recursionLimit → h.get? e = some (excO C t0) → K.lookup e = none →
    (∀ h' t', Made h h' e C (fun y => if y = f then some u else none) → R (.ok (.ret .none)) ⟨h', g, d, t', os⟩) → codeAny (model prog w) A (.call (.ref fI) ⟨[.ref e, u], []⟩) R ⟨h, g, d, t, os⟩
theorem pmk_sup1 {k : Nat} (T : OexC X.K C) (iC : PySem.W.findIn X.K (.ref C) "__init__" = some (some (.ref fI))) (tI : PySem.W.typeIn X.K (.ref fI) = some (.type "function")) (J : Ini1 X.prog X.w X.K X.mg C fI f)
    (hr : Room (k + 1) X.A) (hg : Gl X x) (hm : X.mg x = some (.ref C)) (ha : PA X [e1] ta)
    (hdb : (x == ("__debug__" : Str)) = false := by decide) (he : starEach [e1] X.env = (false, eval e1 X.env) :: starEach [] X.env := by rfl) :
    PMk X (.Call (.Name x p) [e1] [] pos) (tMk1 C f ta) := by
  intro pins s σ H Q I h
  obtain ⟨nm, q, N, bs, bm, sn, sub, ab, col, dd, k0, k1, k2, k3, k5, hC, hbm⟩ := T.cls
  refine wpAny_Call_Name_kw (ld_glob I hg hm ?_ hdb)
  refine PySem.W.callWith_K (h₀ := X.base) I.ok.mod.kin T.kC (thn (ha.run pos pins s σ H _ I h) fun us s1 ⟨vs, H1, I1, r1, y, ev, q1⟩ => ⟨I1.kIn, ?_⟩) he rfl
  show wpAny _ _ (call (.ref C) us) _ _ _
  subst ev
  obtain ⟨u, rfl, ry⟩ := vals1 r1
  obtain ⟨hp, g, dr, tk, os⟩ := s1
  have kk : ∀ b o, hp.get? b = some o → ((hp.push (PySem.W.kdv_tup [u])).push (PySem.HandSPX.excO C hp.objs.size)).get? b = some o := fun b o e => Heap.get?_push_of_some _ (Heap.get?_push_of_some _ e)
  have hget : ((hp.push (PySem.W.kdv_tup [u])).push (PySem.HandSPX.excO C hp.objs.size)).get? (hp.objs.size + 1) = some (PySem.HandSPX.excO C hp.objs.size) := by heap_get
  have hno : ∀ o, hp.get? (hp.objs.size + 1) ≠ some o := fun o z => absurd (Heap.lt_size z) (Nat.not_lt_of_le (Nat.le_succ _))
  have hkn : X.K.lookup (hp.objs.size + 1) = none := by
    cases z : X.K.lookup (hp.objs.size + 1) with
    | none => rfl
    | some o => exact absurd (I1.kIn _ _ z) (hno o)
  have hn : H1 (hp.objs.size + 1) = none := I1.hok.fresh (Nat.le_succ _)
  obtain ⟨mb, b1, b2⟩ := I1.mod.blt
  refine wpAny_call (PySem.HandSPX.call_own F.excBase_ValueError (fun Y => PySem.HandSPX.refsVE_contains Y bm hbm) (I1.kIn _ _ hC) (PySem.W.looks_findIn I1.kIn iC) (fun self => PySem.W.bind_fn I1.kIn self tI) (by show 1 ≤ sizeLine; decide)
    (J _ _ _ _ _ _ _ (hp.objs.size + 1) hp.objs.size u (I1.kIn.keeps kk) ((I1.mod.glob.keeps I1.bk).keeps kk) ⟨mb, (b1.keeps I1.bk).keeps kk, b2⟩ ((I1.mod.nolimit.keeps I1.bk).keeps kk) (hr.make C [u] []).depth hget hkn (fun h' t' M => ?_)))
  obtain ⟨dx, t1, m1, m2, m3, m4, m5⟩ := M
  have hsz : hp.objs.size ≤ dx := Nat.le_trans (by rw [Heap.size_push, Heap.size_push]; omega) m2
  obtain ⟨G, g1', g2'⟩ := restrict h' fun b => decide (b ≠ hp.objs.size + 1)
  have gk : ∀ b, b ≠ hp.objs.size + 1 → G.get? b = h'.get? b := fun b hb => g1' b (decide_eq_true hb)
  have ge : G.get? (hp.objs.size + 1) = none := g2' _ (by simp)
  have nha : ∀ {b : Addr} {o : Obj}, hp.get? b = some o → b ≠ hp.objs.size + 1 := fun {b o} z e => hno o (e ▸ z)
  have kG : ∀ b o, hp.get? b = some o → G.get? b = some o := fun b o z => by rw [gk b (nha z)]; exact m1 b o (nha z) (kk b o z)
  have rel : ∀ g, RelO ([(f, y)].lookup g) (if g = f then some u else none) := relO_put (fs := []) (mA := fun _ => none) ry fun _ => True.intro
  have I2 : Inv X pins σ (upd H1 dx (.xd [(f, y)])) ⟨G, g, dr, t', os⟩ := I1.laid (t' := t') kG hsz (show ObjOk X.prog X.w _ _ _ (.xd [(f, y)]) from ⟨_, m5.at fun o z => (gk dx m3).trans z, rel⟩)
  refine ⟨rfl, hp.objs.size + 1, _, _, ⟨G, g, dr, t', os⟩, _, .ref C, some dx, rfl, I2, fun b o z => ?_, ge, m4, ⟨rfl, rfl⟩, rfl, rfl, ?_, rfl, I1.bare, raises_own T.exC T.tyC, q1 dx (I1.hok.fresh hsz)⟩
  · by_cases hb : b = hp.objs.size + 1
    · rw [hb, ge] at z; cases z
    · exact (gk b hb).symm.trans z
  · rw [upd_ne (Ne.symm m3)]; exact hn
end
end LKX
set_option Elab.async false
set_option linter.all false
set_option maxRecDepth 100000
set_option maxHeartbeats 4000000
set_option autoImplicit false
namespace LKX
open PySem PySem.Spec PyProof.Rows L2
abbrev Suite := Addr → Value → Option Addr → TS
/-- the ends of a suite whose name goes behind it -/
def goneD (i : Nat) (D : Ends) : Ends := ⟨fun σ H => D.nx (σ.set i none) H, D.rt, fun σ H => D.bk (σ.set i none) H, fun σ H => D.ct (σ.set i none) H⟩
/-- what the clauses wish of an exception: (class, slot of the name, suite) -/
def wCl (K : PySem.W.Frag) (Wout : WX) (D : Ends) : List (Value × Option Nat × Suite) → WX
  | [] => Wout
  | (c, some i, ts) :: r => fun cls d σ H => ∃ b, PySem.W.exmOne K cls c = some b ∧ (b = true → ∀ a, H a = none → ts a cls d (goneD i D) (σ.set i (some (.ref a))) H) ∧ (b = false → wCl K Wout D r cls d σ H)
  | (c, none, ts) :: r => fun cls d σ H => ∃ b, PySem.W.exmOne K cls c = some b ∧ (b = true → ∀ a, H a = none → ts a cls d D σ H) ∧ (b = false → wCl K Wout D r cls d σ H)
inductive ClsOk (X : Cx) : List ExceptHandler → List (Value × Option Nat × Suite) → Prop
  | nil : ClsOk X [] []
  | as {x n : Str} {c : Value} {i : Nat} {ts : Suite} {b₀ : Stmt} {suite : List Stmt} {np pos' : Pos} {hds : List ExceptHandler} {l : List (Value × Option Nat × Suite)} (hc : Names X x c) (hi : X.N[i]? = some n) (hln : X.env.kindOf n = some .local)
      (hsu : ∀ (a : Addr) (oe : Obj) (cls : Value) (d : Option Addr) (pn : List (Addr × Obj)), Zc cls d oe → (∃ vs, oe.data = .fields vs) → PSs (X.suite a ((a, oe) :: pn)) (b₀ :: suite) (ts a cls d)) (r : ClsOk X hds l) :
      ClsOk X (.ExceptHandler (some (.Name x np)) (some n) (b₀ :: suite) pos' :: hds) ((c, some i, ts) :: l)
  | bare {x : Str} {c : Value} {ts : Suite} {b₀ : Stmt} {suite : List Stmt} {np pos' : Pos} {hds : List ExceptHandler} {l : List (Value × Option Nat × Suite)} (hc : Names X x c)
      (hsu : ∀ (a : Addr) (oe : Obj) (cls : Value) (d : Option Addr) (pn : List (Addr × Obj)), Zc cls d oe → (∃ vs, oe.data = .fields vs) → PSs (X.suite a ((a, oe) :: pn)) (b₀ :: suite) (ts a cls d)) (r : ClsOk X hds l) :
      ClsOk X (.ExceptHandler (some (.Name x np)) none (b₀ :: suite) pos' :: hds) ((c, none, ts) :: l)
section
variable {X : Cx} {body : List Stmt} {h₀ : ExceptHandler} {hds : List ExceptHandler} {l : List (Value × Option Nat × Suite)} {pos : Pos} {tb : WX → TS} {Wout : WX}
theorem ps_tryC (hs : X.stack = X.env :: X.outer) (hf : X.env.frame = some X.env.locals) (hN : X.N.Nodup) (tk : Takes X Wout)
    (hb : ∀ (W : WX) (pn : List (Addr × Obj)) (xe : Value → Shared → Prop), Takes (X.tr pn xe) W → PassesOwn (model X.prog X.w) X.A X.env xe → PSs (X.tr pn xe) body (tb W))
    (hh : ClsOk X (h₀ :: hds) l) : PS X (.Try body (h₀ :: hds) [] [] pos) (fun D σ H => tb (wCl X.K Wout D l) D σ H) := by
  refine ⟨fun pins s σ H D I h => ?_⟩
  have ok := I.ok
  have hfr : X.A.frames = some (X.env :: X.outer) := by rw [ok.frames, hs]
  have land : ∀ {f : Flow} {s1 : Shared}, SP (X.tr (X.pn ++ pins) (fun e s₁ => wpAny (model X.prog X.w) X.A (noteFrame e X.env) (fun _ s₂ => wpAny (model X.prog X.w) X.A (setFlight e none) (fun _ s₃ =>
      wpAny (model X.prog X.w) X.A (handleBy e X.env (h₀ :: hds)) (SP X pins D) X.xe s₃) X.xe s₂) X.xe s₁)) [] D f s1 → SP X pins D f s1 := fun {f s1} hsp => by
    cases f with
    | ret u => obtain ⟨v, σ', H', J, r, q⟩ := hsp; exact ⟨v, σ', H', J.ofTry ok, r, q⟩
    | next => obtain ⟨σ', H', J, q⟩ := hsp; exact ⟨σ', H', J.ofTry ok, q⟩
    | brk => obtain ⟨σ', H', J, q⟩ := hsp; exact ⟨σ', H', J.ofTry ok, q⟩
    | cont => obtain ⟨σ', H', J, q⟩ := hsp; exact ⟨σ', H', J.ofTry ok, q⟩
  refine wpAny_Try_except (wpAny_mono ((hb (wCl X.K Wout D l) (X.pn ++ pins) _ (fun u s' xx => ?_) PassesOwn.looking).run [] s σ H D (I.toTry _) h) (fun f s1 hsp => ?_) (fun e s1 he => he))
  · obtain ⟨a, B, sI, pins', σ', H', cls, d, rfl, J', nb, up, sky, na, os, ag, w⟩ := xx
    have J : Inv X pins σ' H' sI := J'.ofTry ok
    have sky' : Sky B (X.env :: X.outer) a (Zc cls d) X.env.locals s'.heap := by rw [← hs]; exact sky
    show wpAny (model X.prog X.w) X.A (noteFrame (.ref a) X.env) _ _ _
    refine Sky.land Zc.steady hfr hf sky' fun h3 fl3 up3 => ?_
    have J3 : Inv X pins σ' H' { s' with heap := h3 } := J.landed nb fl3.1 (up.trans up3) os ag
    obtain ⟨oe3, vs3, he3, hz3, hd3⟩ := fl3.there
    have nfr : a ∉ frs (X.env :: X.outer) := fun hm => by
      obtain ⟨_, o', e', hnf⟩ := fl3.2.2.1.mem hm
      rw [he3] at e'; cases e'
      exact hnf _ hd3
    have nL : a ≠ X.env.locals := fun z => nfr (List.mem_filterMap.mpr ⟨X.env, List.mem_cons_self, by rw [hf, z]⟩)
    have nF : a ∉ X.fs := fun hm => by
      obtain ⟨e, he, q⟩ := List.mem_filterMap.mp hm
      exact nfr (List.mem_filterMap.mpr ⟨e, List.mem_cons_of_mem _ he, q⟩)
    have S3 := J3.suite he3 hd3 na nL nF
    have LT : PySem.W.Looks (model X.prog X.w) h3 (typeOf (.ref a)) cls := fun A Q E s k q => wpAny_typeOf_ref (k _ _ he3) (by rw [hz3.1]; exact q)
    have test : ∀ {x : Str} {c : Value} {np : Pos} {Q : Value → Shared → Prop} {E : Value → Shared → Prop}, Names X x c → Q c { s' with heap := h3 } → wpAny (model X.prog X.w) (X.A.mark (some (.ref a))) (eval (.Name x np) X.env) Q E { s' with heap := h3 } := fun {x c np Q E} hc q => by
      obtain ⟨hg, hdbg, hm | ⟨hm, hv, hnn⟩⟩ := hc
      · exact ld_glob (X := X.suite a ((a, oe3) :: (X.pn ++ pins))) S3 hg hm q hdbg
      · exact ld_blt (X := X.suite a ((a, oe3) :: (X.pn ++ pins))) S3 hg hm hv q hnn hdbg
    have go : ∀ {hs' : List ExceptHandler} {l' : List (Value × Option Nat × Suite)}, ClsOk X hs' l' → wCl X.K Wout D l' cls d σ' H' → wpAny (model X.prog X.w) X.A (handleBy (.ref a) X.env hs') (SP X pins D) X.xe { s' with heap := h3 } := by
      intro hs' l' hk
      induction hk with
      | nil =>
        intro w
        refine wpAny_handleBy_nil ?_
        obtain ⟨k1, k2, k3, oe, vs, T, oT, ts', he, hz, hd, h1, hr⟩ := id fl3
        unfold PySem.passOn
        refine wpAny_bind (wpAny_field he hd h1 ?_)
        rw [if_neg (show ¬ ((Value.ref T == Value.none) = true) from by simp)]
        have fin : wpAny (model X.prog X.w) X.A (setFlight (.ref a) X.env.frame) (fun _ s4 => wpAny (model X.prog X.w) X.A (throw (.ref a) : Sem Flow) (SP X pins D) X.xe s4) X.xe { s' with heap := h3 } := by
          rw [hf]
          refine HandSPX.setFlight_upZ fl3 fun h4 hh4 up4 => wpAny_throw (tk _ _ ?_)
          exact ⟨a, B, sI, pins, σ', H', cls, d, rfl, J, nb, (up.trans up3).trans up4, .inr (.inr (by rw [hs]; exact hh4)), na, os, ag, w⟩
        first
          | exact wpAny_bind (wpAny_pure (wpAny_bind fin))
          | exact wpAny_bind fin
      | @as x n c i ts b₀ suite np pos' hds2 l2 hc hi hln hsu r ih =>
        intro w
        obtain ⟨b, hb1, hyes, hno⟩ := w
        refine wpAny_handleBy_cons (codeAny_handlers_test ?_) (by intro q; cases q)
        refine test hc ((PySem.W.exm_one (M := model X.prog X.w) (J3.kIn) LT hb1).here ?_)
        cases b with
        | false => exact ih (hno rfl)
        | true =>
          refine codeAny_handlers_suite_as ?_
          refine HandSPX.lands_againZ fl3 fun h4 fl4 up4 => ?_
          have J4 : Inv X pins σ' H' { s' with heap := h4 } := J.landed nb fl4.1 ((up.trans up3).trans up4) os ag
          obtain ⟨oe4, vs4, he4, hz4, hd4⟩ := fl4.there
          refine store_ok (X := X.suite a ((a, oe4) :: (X.pn ++ pins))) (v := .ref a) (J4.suite he4 hd4 na nL nF) hN hi (.inl hln) rfl (fun s5 S5 => ?_) (.inr hln)
          refine wpAny_mono ((hsu a oe4 cls d (X.pn ++ pins) hz4 ⟨_, hd4⟩).run [] s5 _ H' _ S5 (hyes rfl a na)) (fun f s6 hsp => ?_) (fun _ _ z => False.elim z)
          cases f with
          | next => obtain ⟨σ6, H6, S6, q6⟩ := hsp; exact gone_ok (S6.unsuite ok) hN hi hln fun s7 J7 => ⟨_, _, J7, q6⟩
          | brk => obtain ⟨σ6, H6, S6, q6⟩ := hsp; exact gone_ok (S6.unsuite ok) hN hi hln fun s7 J7 => ⟨_, _, J7, q6⟩
          | cont => obtain ⟨σ6, H6, S6, q6⟩ := hsp; exact gone_ok (S6.unsuite ok) hN hi hln fun s7 J7 => ⟨_, _, J7, q6⟩
          | ret u => obtain ⟨v6, σ6, H6, S6, r6, q6⟩ := hsp; exact gone_ok (S6.unsuite ok) hN hi hln fun s7 J7 => ⟨_, _, _, J7, r6, q6⟩
      | @bare x c ts b₀ suite np pos' hds2 l2 hc hsu r ih =>
        intro w
        obtain ⟨b, hb1, hyes, hno⟩ := w
        refine wpAny_handleBy_cons (codeAny_handlers_test ?_) (by intro q; cases q)
        refine test hc ((PySem.W.exm_one (M := model X.prog X.w) (J3.kIn) LT hb1).here ?_)
        cases b with
        | false => exact ih (hno rfl)
        | true =>
          refine codeAny_handlers_suite ?_
          refine HandSPX.lands_againZ fl3 fun h4 fl4 up4 => ?_
          have J4 : Inv X pins σ' H' { s' with heap := h4 } := J.landed nb fl4.1 ((up.trans up3).trans up4) os ag
          obtain ⟨oe4, vs4, he4, hz4, hd4⟩ := fl4.there
          refine wpAny_mono ((hsu a oe4 cls d (X.pn ++ pins) hz4 ⟨_, hd4⟩).run [] _ _ H' _ (J4.suite he4 hd4 na nL nF) (hyes rfl a na)) (fun f s6 hsp => ?_) (fun _ _ z => False.elim z)
          cases f with
          | next => obtain ⟨σ6, H6, S6, q6⟩ := hsp; exact ⟨_, _, S6.unsuite ok, q6⟩
          | brk => obtain ⟨σ6, H6, S6, q6⟩ := hsp; exact ⟨_, _, S6.unsuite ok, q6⟩
          | cont => obtain ⟨σ6, H6, S6, q6⟩ := hsp; exact ⟨_, _, S6.unsuite ok, q6⟩
          | ret u => obtain ⟨v6, σ6, H6, S6, r6, q6⟩ := hsp; exact ⟨_, _, _, S6.unsuite ok, r6, q6⟩
    exact go hh w
  · have q := land hsp
    cases f with
    | next => exact wpAny_execs_nil q
    | ret u => exact q
    | brk => exact q
    | cont => exact q
end
end LKX
set_option Elab.async false
set_option linter.all false
set_option maxRecDepth 100000
set_option maxHeartbeats 4000000
set_option autoImplicit false
namespace LK
open PySem PySem.Spec PyProof.Rows L2 LKX
/-- an error: its kind, its fields -/
abbrev Er := Nat × List Dt
structure XT where
  cls : Nat → Addr
  flds : Nat → List Str
def rEr (T : XT) (F : Hp) (cls : Value) (d : Option Addr) (er : Er) : Prop :=
  cls = .ref (T.cls er.1) ∧ ∃ dd fs, d = some dd ∧ F dd = some (.xd fs) ∧ ∀ (i : Nat) (f : Str) (x : Dt), (T.flds er.1)[i]? = some f → er.2[i]? = some x → ∃ v, fs.lookup f = some v ∧ rDt F v x
theorem rEr.mo {T : XT} {F F' : Hp} {cls : Value} {d : Option Addr} {er : Er} (h : rEr T F cls d er) (e : Exs F F') : rEr T F' cls d er := by
  obtain ⟨h1, dd, fs, h2, h3, h4⟩ := h
  refine ⟨h1, dd, fs, h2, e.at_ h3 rfl, fun i f x a b => ?_⟩
  obtain ⟨v, z1, z2⟩ := h4 i f x a b
  exact ⟨v, z1, mox' e z2⟩
where mox' {F F' : Hp} {v : V} {x : Dt} (e : Exs F F') (h : rDt F v x) : rDt F' v x := rDt_mo e h
/-- what is wanted of an error that leaves -/
def ErK (T : XT) (F H : Hp) (E : XK) (er : Er) : Prop := ∀ cls d F' H', Gr F H F' H' → rEr T F' cls d er → E cls d H'
theorem ErK.up {T : XT} {F H F' H' : Hp} {E : XK} {er : Er} (h : ErK T F H E er) (g : Gr F H F' H') : ErK T F' H' E er := fun cls d F2 H2 g2 r => h cls d F2 H2 (g.trans g2) r
section
variable {F0 H0 : Hp} {G : List Slot} {m m1 m2 : Md} {ta tb te : TE} {t : TA} {K : PySem.W.Frag} {T : XT}
variable {nx : L2.St → Hp → Prop} {rt : VK} {bk ct : L2.St → Hp → Prop}
/-- raise C(e) -/
theorem gk_raise1 {α : Type} {r : Rp α} [Mo r] [Tod r] {a : α} {C : Addr} {f : Str} {W : WX} {D : Ends} {k : Nat} (h : Ed F0 H0 te G .sh r a) (hC : T.cls k = C) (hf : T.flds k = [f])
    (hx : ∀ σ F H, EnvOk F0 H0 G σ F H → ∀ cls d, rEr T F cls d (k, [Tod.d r a]) → W cls d σ H) : Gk F0 H0 (fun σ H => tMk1 C f (tCons te tNil) σ H fun cls d H' => W cls d σ H') G := fun σ F H E =>
  h σ F H E _ fun v F1 H1 g1 hv => ⟨v, rfl, fun dx hd => by
    have n := Ex.new (o := .xd [(f, v)]) (g1.fh.back hd)
    refine hx σ (upd F1 dx (.xd [(f, v)])) _ (E.gro (g1.trans (Gr.new g1.fh hd))) _ _ ⟨by rw [← hC], dx, _, rfl, upd_same, fun i g x e1 e2 => ?_⟩
    rw [hf] at e1
    cases i with
    | zero =>
      have e1 : f = g := Option.some.inj e1
      have e2 : Tod.d r a = x := Option.some.inj e2
      subst e1; subst e2
      exact ⟨v, by simp [List.lookup], Tod.to (mox n hv)⟩
    | succ i => simp at e1⟩
end
/-- v: the caught one at a, of the class cls, its dict at d -/
def rXc (T : XT) (a : Addr) (cls : Value) (d : Option Addr) : Rp Er := fun F v er => v = .ref a ∧ rEr T F cls d er
instance (T : XT) (a : Addr) (cls : Value) (d : Option Addr) : Mo (rXc T a cls d) := ⟨fun e h => ⟨h.1, h.2.mo e⟩⟩
section
variable {F0 H0 : Hp} {G : List Slot} {m : Md} {te : TE} {K : PySem.W.Frag} {T : XT} {er : Er} {Wout : WX} {D : Ends} {l : List (Value × Option Nat × Suite)} {c : Value} {i : Nat} {ts : Suite}
/-- what is wanted where the error er is in the air -/
def Air (F0 H0 : Hp) (G : List Slot) (T : XT) (W : WX) (er : Er) : Prop := ∀ σ F H, EnvOk F0 H0 G σ F H → ∀ cls d, rEr T F cls d er → W cls d σ H
theorem air_as {b : Bool} (he : PySem.W.exmOne K (.ref (T.cls er.1)) c = some b) (hy : b = true → ∀ a cls d, Gk F0 H0 (ts a cls d (goneD i D)) (G.set i (sF (rXc T a cls d) er))) (hn : b = false → Air F0 H0 G T (wCl K Wout D l) er) :
    Air F0 H0 G T (wCl K Wout D ((c, some i, ts) :: l)) er := fun σ F H EE cls d r => ⟨b, by rw [r.1]; exact he, fun e a ha => hy e a cls d _ F H (EE.set ⟨.ref a, rfl, rfl, r⟩ fun _ _ z => nomatch z), fun e => hn e σ F H EE cls d r⟩
theorem air_nil (h : Air F0 H0 G T Wout er) : Air F0 H0 G T (wCl K Wout D []) er := h
/-- behind a suite the name is gone -/
theorem gk_gone {nx : L2.St → Hp → Prop} (h : Gk F0 H0 nx (G.set i .no)) : Gk F0 H0 (fun σ H => nx (σ.set i none) H) G := fun σ F H E => h _ F H E.wipe
/-- e.f of the caught one -/
theorem ed_xf {a : Addr} {cls : Value} {d : Option Addr} {im : Mo (rXc T a cls d)} {n : Nat} {f : Str} {x : Dt} {C : Addr} (hi : G[i]? = some (.fz (rXc T a cls d) im er)) (hC : T.cls er.1 = C) (hf : (T.flds er.1)[n]? = some f) (hx : er.2[n]? = some x) :
    Ed F0 H0 (tXf a cls d C f (tVar i)) G .sh rDt x := fun σ F H E Q q => by
  obtain ⟨v, hv, rfl, h1, dd, fs, h2, h3, h4⟩ := E.fz_at hi
  obtain ⟨u, e1, e2⟩ := h4 n f x hf hx
  exact ⟨_, hv, rfl, by rw [h1, hC], dd, fs, u, h2, E.gr.fh _ _ h3, e1, q u F H (Gr.refl E.gr.fh) e2⟩
/-- a datum of a known kind as one of any kind -/
theorem ed_dt {α : Type} {r : Rp α} [Tod r] {a : α} (h : Ed F0 H0 te G m r a) : Ed F0 H0 te G m rDt (Tod.d r a) := fun σ F H E Q q => h σ F H E Q fun v F' H' g hv => q v F' H' g (Tod.to hv)
end
section
end
end LK
namespace LK
open PySem PySem.Spec L2 LKX
end LK
namespace LK
open PySem PySem.Spec L2 LKX
end LK
set_option Elab.async false
set_option linter.all false
set_option maxRecDepth 100000
set_option maxHeartbeats 4000000
set_option autoImplicit false
namespace LKX
open PySem PySem.Spec PyProof.Rows L2
end LKX
namespace LK
open PySem PySem.Spec PyProof.Rows L2 LKX
end LK
namespace LK
open PySem PySem.Spec PyProof.Rows L2
/-- a module's constant -/
theorem w_glob {X : Cx} {x : Str} {v : V} {pos : Pos} (h : ∃ u, X.mg x = some u ∧ RelV v u) (hg : Gl X x := by rfl) (hd : (x == ("__debug__" : Str)) = false := by decide) : PE X (.Name x pos) (tC v) :=
  let ⟨_, h1, h2⟩ := h; pe_glob hg h1 h2 hd
end LK
namespace LKX
open PySem PySem.Spec PyProof.Rows L2 LK
/-- what a law knows of an error's class with one field, by its name -/
structure Xk (P : Program) (w : World) (K : PySem.W.Frag) (mg : Str → Option Value) (xt : XT) (x : Str) (k : Nat) (f : Str) : Prop where
  gC : mg x = some (.ref (xt.cls k))
  T : OexC K (xt.cls k)
  ini : ∃ fI, PySem.W.findIn K (.ref (xt.cls k)) "__init__" = some (some (.ref fI)) ∧ PySem.W.typeIn K (.ref fI) = some (.type "function") ∧ Ini1 P w K mg (xt.cls k) fI f
  flds : xt.flds k = [f]
theorem pmk_xk {X : Cx} {xt : XT} {x f : Str} {k j : Nat} {e1 : Expr} {ta : TA} {p pos : Pos} (J : Xk X.prog X.w X.K X.mg xt x k f) (hr : Room (j + 1) X.A) (ha : PA X [e1] ta) (hg : Gl X x := by rfl)
    (hdb : (x == ("__debug__" : Str)) = false := by decide) (he : starEach [e1] X.env = (false, eval e1 X.env) :: starEach [] X.env := by rfl) : PMk X (.Call (.Name x p) [e1] [] pos) (tMk1 (xt.cls k) f ta) :=
  let ⟨_, a, b, c⟩ := J.ini; pmk_sup1 J.T a b c hr hg J.gC ha hdb he
theorem ps_raise1 {X : Cx} {W : WX} {xt : XT} {x f : Str} {k j : Nat} {e1 : Expr} {ta : TA} {p pos pos2 : Pos} (J : Xk X.prog X.w X.K X.mg xt x k f) (hr : Room (j + 1) X.A) (tk : Takes X W) (ha : PA X [e1] ta) (hc : X.calm = true := by rfl) (hg : Gl X x := by rfl)
    (hdb : (x == ("__debug__" : Str)) = false := by decide) (he : starEach [e1] X.env = (false, eval e1 X.env) :: starEach [] X.env := by rfl) :
    PS X (.Raise (some (.Call (.Name x p) [e1] [] pos)) none pos2) (fun _ σ H => tMk1 (xt.cls k) f ta σ H fun cls d H' => W cls d σ H') := ps_raise hc tk (pmk_xk J hr ha hg hdb he)
end LKX
set_option Elab.async false
set_option linter.all false
set_option maxRecDepth 100000
set_option maxHeartbeats 4000000
set_option autoImplicit false
/-- an answer: a datum, an error, nothing known -/
inductive R (ε α : Type) : Type
  | ok (a : α)
  | er (e : ε)
  | no
namespace R
variable {ε δ α β : Type}
/-- one after the other, errors as they are -/
def bind (x : R ε α) (k : α → R ε β) : R ε β := match x with
  | .ok a => k a
  | .er e => .er e
  | .no => .no
/-- one after the other, errors told by g -/
def thn (x : R ε α) (g : ε → δ) (k : α → R δ β) : R δ β := match x with
  | .ok a => k a
  | .er e => .er (g e)
  | .no => .no
/-- where no error may leave -/
def noer (x : R ε α) : R δ α := match x with
  | .ok a => .ok a
  | _ => .no
/-- if it is so -/
def iff (c : Prop) [Decidable c] (x : R ε α) : R ε α := if c then x else .no
end R
namespace LJ
open PySem L2 LK LKX PyProof.Rows PySem.Spec
/-- no star ahead of it -/
def notStar : Expr → Bool
  | .Starred _ _ => false
  | _ => true
theorem star_cons {e : Expr} {es : List Expr} {env : Env} (h : notStar e = true) : starEach (e :: es) env = (false, eval e env) :: starEach es env := by
  cases e <;> first | rfl | cases h
def tE (X : Cx) (e : Expr) : TE := fun σ H Q => ∀ (pins : List (Addr × Obj)) (s : Shared), Inv X pins σ H s → wpAny (model X.prog X.w) X.A (eval e X.env) (EP X pins σ Q) X.xe s
def tT (X : Cx) (e : Expr) : TT := fun σ H Q => ∀ (pins : List (Addr × Obj)) (s : Shared), Inv X pins σ H s → wpAny (model X.prog X.w) X.A (isTrue e X.env (eval e X.env)) (TP X pins σ Q) X.xe s
def tW (X : Cx) (e : Expr) : TT := fun σ H Q => ∀ (wh : Sem Value) (pins : List (Addr × Obj)) (s : Shared), Inv X pins σ H s → wpAny (model X.prog X.w) X.A (isTrue e X.env wh) (TP X pins σ Q) X.xe s
def tA (X : Cx) (es : List Expr) : TA := fun σ H Q => ∀ (pos : Pos) (pins : List (Addr × Obj)) (s : Shared), Inv X pins σ H s → wpAny (model X.prog X.w) X.A (spliced (backTo pos (starEach es X.env))) (AP X pins σ Q) X.xe s
def tS (X : Cx) (st : List Stmt) : TS := fun D σ H => ∀ (pins : List (Addr × Obj)) (s : Shared), Inv X pins σ H s → wpAny (model X.prog X.w) X.A (execs st X.env) (SP X pins D) X.xe s
section
variable {X : Cx} {e : Expr} {es : List Expr} {st : List Stmt} {t : TE} {u : TT} {a : TA} {v : TS}
theorem pE : PE X e (tE X e) := ⟨fun pins s σ H Q I h => h pins s I⟩
theorem pT : PT X e (tT X e) := ⟨fun pins s σ H Q I h => h pins s I⟩
theorem pW : PW X e (tW X e) := ⟨fun wh pins s σ H Q I h => h wh pins s I⟩
theorem pA : PA X es (tA X es) := ⟨fun pos pins s σ H Q I h => h pos pins s I⟩
theorem pS : PSs X st (tS X st) := ⟨fun pins s σ H D I h => h pins s I⟩
theorem tE_le (h : PE X e t) {σ : L2.St} {H : Hp} {Q : VK} (q : t σ H Q) : tE X e σ H Q := fun pins s I => h.run pins s σ H Q I q
theorem tT_le (h : PT X e u) {σ : L2.St} {H : Hp} {Q : Bool → Hp → Prop} (q : u σ H Q) : tT X e σ H Q := fun pins s I => h.run pins s σ H Q I q
theorem tW_le (h : PW X e u) {σ : L2.St} {H : Hp} {Q : Bool → Hp → Prop} (q : u σ H Q) : tW X e σ H Q := fun wh pins s I => h.run wh pins s σ H Q I q
theorem tA_le (h : PA X es a) {σ : L2.St} {H : Hp} {Q : List V → Hp → Prop} (q : a σ H Q) : tA X es σ H Q := fun pos pins s I => h.run pos pins s σ H Q I q
theorem tS_le (h : PSs X st v) {σ : L2.St} {H : Hp} {D : Ends} (q : v D σ H) : tS X st D σ H := fun pins s I => h.run pins s σ H D I q
end
structure Cn where
  X : Cx
  T : XT
  W : WX
  tk : Takes X W
  nd : X.N.Nodup
/-- an error is in the air -/
def Dx (C : Cn) (F0 H0 : Hp) (t : TE) (G : List Slot) (e : Er) : Prop := ∀ σ F H, EnvOk F0 H0 G σ F H → (∀ F' H' cls d, Gr F H F' H' → rEr C.T F' cls d e → C.W cls d σ H') → ∀ Q : VK, t σ H Q
def Dr (C : Cn) {α : Type} (F0 H0 : Hp) (t : TE) (G : List Slot) (m : Md) (r : Rp α) : R Er α → Prop
  | .ok a => Ed F0 H0 t G m r a
  | .er e => Dx C F0 H0 t G e
  | .no => True
def Tx (C : Cn) (F0 H0 : Hp) (t : TT) (G : List Slot) (e : Er) : Prop := ∀ σ F H, EnvOk F0 H0 G σ F H → (∀ F' H' cls d, Gr F H F' H' → rEr C.T F' cls d e → C.W cls d σ H') → ∀ Q : Bool → Hp → Prop, t σ H Q
def Tr (C : Cn) (F0 H0 : Hp) (t : TT) (G : List Slot) : R Er Bool → Prop
  | .ok b => Et F0 H0 t G b
  | .er e => Tx C F0 H0 t G e
  | .no => True
/-- a thing in a slot of its own -/
def Dv (F0 H0 : Hp) (t : TE) (G : List Slot) (s : Slot) : Prop := ∀ σ F H, EnvOk F0 H0 G σ F H → ∀ Q : VK, (∀ v F' H', Gr F H F' H' → EnvOk F H [s] [some v] F' H' → Q v H') → t σ H Q
def Ds (C : Cn) {α : Type} (F0 H0 : Hp) (t : TE) (G : List Slot) (sb : α → Slot) : R Er α → Prop
  | .ok a => Dv F0 H0 t G (sb a)
  | .er e => Dx C F0 H0 t G e
  | .no => True
section
variable {C : Cn} {F0 H0 : Hp} {G : List Slot} {m m1 m2 : Md} {ta tb : TE}
theorem Dr.bind {α β : Type} {r : Rp α} {r' : Rp β} {x : R Er α} {f : α → R Er β} {t : TE} (h : Dr C F0 H0 ta G m r x) (hx : ∀ e, Dx C F0 H0 ta G e → Dx C F0 H0 t G e) (k : ∀ a, Ed F0 H0 ta G m r a → Dr C F0 H0 t G m1 r' (f a)) : Dr C F0 H0 t G m1 r' (x.bind f) := by
  cases x with
  | ok a => exact k a h
  | er e => exact hx e h
  | no => trivial
theorem Dr.le {α : Type} {r : Rp α} {x : R Er α} {t u : TE} (h : Dr C F0 H0 t G m r x) (le : ∀ σ H Q, t σ H Q → u σ H Q) : Dr C F0 H0 u G m r x := by
  cases x with
  | ok a => exact fun σ F H E Q q => le _ _ _ (h σ F H E Q q)
  | er e => exact fun σ F H E w Q => le _ _ _ (h σ F H E w Q)
  | no => trivial
theorem Ds.le {α : Type} {sb : α → Slot} {x : R Er α} {t u : TE} (h : Ds C F0 H0 t G sb x) (le : ∀ σ H Q, t σ H Q → u σ H Q) : Ds C F0 H0 u G sb x := by
  cases x with
  | ok a => exact fun σ F H E Q q => le _ _ _ (h σ F H E Q q)
  | er e => exact fun σ F H E w Q => le _ _ _ (h σ F H E w Q)
  | no => trivial
theorem Tr.le {x : R Er Bool} {t u : TT} (h : Tr C F0 H0 t G x) (le : ∀ σ H Q, t σ H Q → u σ H Q) : Tr C F0 H0 u G x := by
  cases x with
  | ok a => exact fun σ F H E Q q => le _ _ _ (h σ F H E Q q)
  | er e => exact fun σ F H E w Q => le _ _ _ (h σ F H E w Q)
  | no => trivial
end
structure XE (C : Cn) (e : Expr) (G : List Slot) (m : Md) {α : Type} (r : Rp α) (f : R Er α) : Prop where
  h : ∀ F0 H0, Dr C F0 H0 (tE C.X e) G m r f
structure XQ (C : Cn) (e : Expr) (G : List Slot) (f : R Er Bool) : Prop where
  h : ∀ F0 H0, Tr C F0 H0 (tT C.X e) G f
structure XW (C : Cn) (e : Expr) (G : List Slot) (f : R Er Bool) : Prop where
  h : ∀ F0 H0, Tr C F0 H0 (tW C.X e) G f
structure XN (C : Cn) (e : Expr) (G : List Slot) {α : Type} (sb : α → Slot) (f : R Er α) : Prop where
  h : ∀ F0 H0, Ds C F0 H0 (tE C.X e) G sb f
/-- what a block hands on: rs, ret: a return; slz: what is told of the slots at a return or an error; em: an error -/
structure Jn (β ρ ε Z : Type) where
  rs : β → Slot
  ret : β → Z → ρ
  slz : Z → List Slot
  em : Er → Z → ε
section
variable {β ρ ε Z S' : Type}
/-- what the answers mean -/
structure Ans (C : Cn) (J : Jn β ρ ε Z) (F0 H0 : Hp) (A : R ε ρ → Prop) (rt : VK) : Prop where
  no : ¬ A .no
  ret : ∀ b z, A (.ok (J.ret b z)) → ∀ σ F H v, EnvOk F0 H0 (J.rs b :: J.slz z) (some v :: σ) F H → rt v H
  er : ∀ e z, A (.er (J.em e z)) → ∀ σ F H cls d, EnvOk F0 H0 (J.slz z) σ F H → rEr C.T F cls d e → C.W cls d σ H
structure XB (C : Cn) (J : Jn β ρ ε Z) (st : List Stmt) (G : List Slot) (slk : S' → List Slot) (M : (S' → R ε ρ) → R ε ρ) : Prop where
  h : ∀ (F0 H0 : Hp) (A : R ε ρ → Prop) (D : Ends), Ans C J F0 H0 A D.rt → ∀ k : S' → R ε ρ, (∀ s', A (k s') → Gk F0 H0 D.nx (slk s')) → A (M k) → Gk F0 H0 (tS C.X st D) G
theorem Ans.down {C : Cn} {J : Jn β ρ ε Z} {F0 H0 F1 : Hp} {A : R ε ρ → Prop} {rt : VK} (a : Ans C J F0 H0 A rt) (b : Bs F0 H0 F1) : Ans C J F1 H0 A rt :=
  ⟨a.no, fun x z h σ F H v E => a.ret x z h σ F H v (E.down b), fun e z h σ F H cls d E => a.er e z h σ F H cls d (E.down b)⟩
end
section
variable {C : Cn} {G : List Slot} {m m1 m2 : Md} {a b : Expr} {pos : Pos}
theorem xv {α : Type} {r : Rp α} {im : Mo r} {x : Str} {g : α} (i : Nat) (h : G[i]? = some (.fz r im g) := by rfl) (hN : C.X.N[i]? = some x := by rfl) (hv : Vis C.X.env.scope x := by first | exact Or.inl rfl | exact Or.inr (Or.inl rfl) | exact Or.inr (Or.inr rfl)) (hd : (x == ("__debug__" : Str)) = false := by decide)
    (hcd : (x == ("__classdict__" : Str)) = false := by decide) : XE C (.Name x pos) G .sh r (.ok g) := ⟨fun F0 H0 σ F H E Q q => tE_le (pe_var hN hv hd hcd) (ed_v (F0 := F0) (H0 := H0) h σ F H E Q q)⟩
theorem xvb {α : Type} {r : Rp α} {im : Mo r} {x : Str} {g : α} (i : Nat) (h : G[i]? = some (.bw r im g) := by rfl) (hN : C.X.N[i]? = some x := by rfl) (hv : Vis C.X.env.scope x := by first | exact Or.inl rfl | exact Or.inr (Or.inl rfl) | exact Or.inr (Or.inr rfl)) (hd : (x == ("__debug__" : Str)) = false := by decide)
    (hcd : (x == ("__classdict__" : Str)) = false := by decide) : XE C (.Name x pos) G .b0 r (.ok g) := ⟨fun F0 H0 σ F H E Q q => tE_le (pe_var hN hv hd hcd) (ed_b (F0 := F0) (H0 := H0) h σ F H E Q q)⟩
/-- a reading without conditions -/
theorem x0 {α : Type} {r : Rp α} {e : Expr} {t : TE} {f : α} (p : PE C.X e t) (h : ∀ F0 H0, Ed F0 H0 t G m r f) : XE C e G m r (.ok f) := ⟨fun F0 H0 σ F H E Q q => tE_le p (h F0 H0 σ F H E Q q)⟩
theorem xint {i : Int} {n : Nat} : XE C (.Constant (.int i) n pos) G .sh rInt (.ok i) := x0 pe_int fun _ _ => ed_int
theorem xbl {c : Bool} {n : Nat} : XE C (.Constant (.bool c) n pos) G .sh rBl (.ok c) := x0 pe_bl fun _ _ => ed_bl
theorem xtx {x : Str} {n : Nat} (l : List Nat) (h : x = ⟨l.toArray⟩ := by rfl) (hl : l.length ≤ 16777216 := by decide) (hc : (l.all fun c => decide (c < 1114112)) = true := by decide) : XE C (.Constant (.str x) n pos) G .sh rTx (.ok l) := x0 pe_str fun _ _ => ed_tx h hl hc
theorem xglob {α : Type} {r : Rp α} {x : Str} {v : V} {a : α} (h : ∃ u, C.X.mg x = some u ∧ RelV v u) (hr : ∀ F, r F v a) (hg : Gl C.X x := by rfl) (hd : (x == ("__debug__" : Str)) = false := by decide) : XE C (.Name x pos) G .sh r (.ok a) := x0 (w_glob h hg hd) fun _ _ => ed_c hr
end
section
variable {C : Cn} {G : List Slot} {m m1 m2 : Md} {a b e : Expr} {pos : Pos}
theorem x1 {α γ : Type} {rx : Rp α} {rz : Rp γ} {t : TE} {f : R Er α} {op : α → R Er γ} (ha : XE C a G m1 rx f)
    (p : PE C.X e t) (hx : ∀ F0 H0 x, Dx C F0 H0 (tE C.X a) G x → Dx C F0 H0 t G x)
    (ho : ∀ F0 H0 x, Ed F0 H0 (tE C.X a) G m1 rx x → Dr C F0 H0 t G m rz (op x)) : XE C e G m rz (f.bind op) := ⟨fun F0 H0 =>
  ((ha.h F0 H0).bind (hx F0 H0) fun x h1 => ho F0 H0 x h1).le fun _ _ _ q => tE_le p q⟩
theorem dx_op1 {r : R2} {ta tb : TE} {F0 H0 : Hp} {x : Er} (h : Dx C F0 H0 ta G x) : Dx C F0 H0 (tOp r ta tb) G x := fun σ F H E w Q => h σ F H E w _
theorem dx_op2 {α : Type} {rx : Rp α} {y : α} {r : R2} {ta tb : TE} {F0 H0 : Hp} {x : Er} (h1 : Ed F0 H0 ta G m rx y) (h : Dx C F0 H0 tb G x) : Dx C F0 H0 (tOp r ta tb) G x := fun σ F H E w Q =>
  h1 σ F H E _ fun v F1 H1 g1 _ => h σ F1 H1 (E.gro g1) (fun F' H' cls d g z => w F' H' cls d (g1.trans g) z) _
theorem x2 {α β γ : Type} {rx : Rp α} {ry : Rp β} {rz : Rp γ} {r : R2} {f : R Er α} {g : R Er β} {op : α → β → R Er γ} (ha : XE C a G m1 rx f) (hb : XE C b G m2 ry g)
    (p : PE C.X e (tOp r (tE C.X a) (tE C.X b))) (ho : ∀ F0 H0 x y, Ed F0 H0 (tE C.X a) G m1 rx x → Ed F0 H0 (tE C.X b) G m2 ry y → Dr C F0 H0 (tOp r (tE C.X a) (tE C.X b)) G m rz (op x y)) :
    XE C e G m rz (f.bind fun x => g.bind fun y => op x y) := ⟨fun F0 H0 =>
  ((ha.h F0 H0).bind (fun _ => dx_op1) fun x h1 => (hb.h F0 H0).bind (fun _ => dx_op2 h1) fun y h2 => ho F0 H0 x y h1 h2).le fun _ _ _ q => tE_le p q⟩
theorem dr_iff {α : Type} {r : Rp α} {c : Prop} [Decidable c] {x : α} {F0 H0 : Hp} {t : TE} (h : c → Ed F0 H0 t G m r x) : Dr C F0 H0 t G m r (R.iff c (.ok x)) := by
  unfold R.iff
  by_cases hc : c
  · rw [if_pos hc]; exact h hc
  · rw [if_neg hc]; trivial
def mulR (x y : Int) : R Er Int := R.iff ((-18446744073709551616 < x ∧ x < 18446744073709551616) ∨ (-18446744073709551616 < y ∧ y < 18446744073709551616)) (.ok (x * y))
def modR (x y : Int) : R Er Int := R.iff (0 < y) (.ok (x % y))
def divR (x y : Int) : R Er Int := R.iff (0 < y ∧ y < 1073741824) (.ok (x / y))
def powR (x y : Int) : R Er Int := R.iff (0 ≤ y ∧ y ≤ 1000000 ∧ x.natAbs < 18446744073709551616) (.ok (x ^ y.toNat))
variable {f g : R Er Int}
theorem xadd (ha : XE C a G m1 rInt f) (hb : XE C b G m2 rInt g) : XE C (.BinOp a .Add b pos) G .sh rInt (f.bind fun x => g.bind fun y => .ok (x + y)) := x2 ha hb (pe_op op_add pE pE) fun _ _ _ _ h1 h2 => ed_add h1 h2
theorem xsub (ha : XE C a G m1 rInt f) (hb : XE C b G m2 rInt g) : XE C (.BinOp a .Sub b pos) G .sh rInt (f.bind fun x => g.bind fun y => .ok (x - y)) := x2 ha hb (pe_op op_sub pE pE) fun _ _ _ _ h1 h2 => ed_sub h1 h2
theorem xmul (ha : XE C a G m1 rInt f) (hb : XE C b G m2 rInt g) : XE C (.BinOp a .Mult b pos) G .sh rInt (f.bind fun x => g.bind fun y => mulR x y) := x2 ha hb (pe_op op_mul pE pE) fun _ _ _ _ h1 h2 => dr_iff fun c => ed_mul h1 h2 c
theorem xmod (ha : XE C a G m1 rInt f) (hb : XE C b G m2 rInt g) : XE C (.BinOp a .Mod b pos) G .sh rInt (f.bind fun x => g.bind fun y => modR x y) := x2 ha hb (pe_op op_mod pE pE) fun _ _ _ _ h1 h2 => dr_iff fun c => ed_mod h1 h2 c
theorem xdiv (ha : XE C a G m1 rInt f) (hb : XE C b G m2 rInt g) : XE C (.BinOp a .FloorDiv b pos) G .sh rInt (f.bind fun x => g.bind fun y => divR x y) := x2 ha hb (pe_op op_fdiv pE pE) fun _ _ _ _ h1 h2 => dr_iff fun c => ed_div h1 h2 c
theorem xpow (ha : XE C a G m1 rInt f) (hb : XE C b G m2 rInt g) : XE C (.BinOp a .Pow b pos) G .sh rInt (f.bind fun x => g.bind fun y => powR x y) := x2 ha hb (pe_op op_pow pE pE) fun _ _ _ _ h1 h2 => dr_iff fun c => ed_pow h1 h2 c
def tCm (X : Cx) (op : CmpOp) (a b : Expr) : TE := fun σ H Q => ∀ (pins : List (Addr × Obj)) (s : Shared), Inv X pins σ H s →
    wpAny (model X.prog X.w) X.A (eval a X.env) (fun v s₁ => wpAny (model X.prog X.w) X.A (eval b X.env) (fun u s₂ => wpAny (model X.prog X.w) X.A (compareOp op v u) (EP X pins σ Q) X.xe s₂) X.xe s₁) X.xe s
theorem pC {X : Cx} {op : CmpOp} {a b : Expr} : PC X op a b (tCm X op a b) := ⟨fun pins s σ H Q I h => h pins s I⟩
theorem tCm_le {X : Cx} {op : CmpOp} {a b : Expr} {t : TE} (h : PC X op a b t) {σ : L2.St} {H : Hp} {Q : VK} (q : t σ H Q) : tCm X op a b σ H Q := fun pins s I => h.run pins s σ H Q I q
theorem pcR {X : Cx} {op : CmpOp} {r : R2} (ho : OpR X (compareOp op) r) {a b : Expr} : PC X op a b (tOp r (tE X a) (tE X b)) := ⟨fun pins s σ H Q I h => binT pE pE I h fun v u s2 x y H2 I2 rx ry q => ho pins s2 σ H2 x y v u Q I2 rx ry q⟩
structure XC (C : Cn) (op : CmpOp) (a b : Expr) (G : List Slot) (f : R Er Bool) : Prop where
  h : ∀ F0 H0, Dr C F0 H0 (tCm C.X op a b) G .sh rBl f
theorem xcv {op : CmpOp} {f : R Er Bool} (h : XC C op a b G f) (hm : behindInMarks op b = false := by first | exact nobehind _ (by decide) (by decide) | rfl) : XE C (.Compare a [op] [b] pos) G .sh rBl f := ⟨fun F0 H0 => (h.h F0 H0).le fun _ _ _ q => tE_le (pe_cmp pC hm) q⟩
theorem xqc {op : CmpOp} {f : R Er Bool} (h : XC C op a b G f) (hm : behindInMarks op b = false := by first | exact nobehind _ (by decide) (by decide) | rfl) : XQ C (.Compare a [op] [b] pos) G f := ⟨fun F0 H0 => by
  have h := h.h F0 H0
  cases f with
  | ok x => exact fun σ F H E Q q => tT_le (pt_cmp pC hm) (et_B (te := tCm C.X op a b) (F0 := F0) (H0 := H0) h σ F H E Q q)
  | er e => exact fun σ F H E w Q => tT_le (pt_cmp pC hm) (h σ F H E w _)
  | no => trivial⟩
theorem xc2 {α β : Type} {rx : Rp α} {ry : Rp β} {r : R2} {op : CmpOp} {f : R Er α} {g : R Er β} {o : α → β → R Er Bool} (ha : XE C a G m1 rx f) (hb : XE C b G m2 ry g)
    (p : OpR C.X (compareOp op) r) (ho : ∀ F0 H0 x y, Ed F0 H0 (tE C.X a) G m1 rx x → Ed F0 H0 (tE C.X b) G m2 ry y → Dr C F0 H0 (tOp r (tE C.X a) (tE C.X b)) G .sh rBl (o x y)) :
    XC C op a b G (f.bind fun x => g.bind fun y => o x y) := ⟨fun F0 H0 =>
  ((ha.h F0 H0).bind (fun _ => dx_op1) fun x h1 => (hb.h F0 H0).bind (fun _ => dx_op2 h1) fun y h2 => ho F0 H0 x y h1 h2).le fun _ _ _ q => tCm_le (pcR p) q⟩
theorem xlt (ha : XE C a G m1 rInt f) (hb : XE C b G m2 rInt g) : XC C .Lt a b G (f.bind fun x => g.bind fun y => .ok (decide (x < y))) := xc2 ha hb op_lt fun _ _ _ _ h1 h2 => ed_lt h1 h2
theorem xgt (ha : XE C a G m1 rInt f) (hb : XE C b G m2 rInt g) : XC C .Gt a b G (f.bind fun x => g.bind fun y => .ok (decide (y < x))) := xc2 ha hb op_gt fun _ _ _ _ h1 h2 => ed_gt h1 h2
theorem xge (ha : XE C a G m1 rInt f) (hb : XE C b G m2 rInt g) : XC C .GtE a b G (f.bind fun x => g.bind fun y => .ok (decide (y ≤ x))) := xc2 ha hb op_ge fun _ _ _ _ h1 h2 => ed_ge h1 h2
/-- == of ints, texts, bools -/
theorem xeq {α : Type} {r : Rp α} [DecidableEq α] [Mo r] [Sc r] {f g : R Er α} (ha : XE C a G m1 r f) (hb : XE C b G m2 r g) : XC C .Eq a b G (f.bind fun x => g.bind fun y => .ok (decide (x = y))) := xc2 ha hb op_eq fun _ _ _ _ h1 h2 => ed_eq h1 h2
theorem xne {α : Type} {r : Rp α} [DecidableEq α] [Mo r] [Sc r] {f g : R Er α} (ha : XE C a G m1 r f) (hb : XE C b G m2 r g) : XC C .NotEq a b G (f.bind fun x => g.bind fun y => .ok (!decide (x = y))) := xc2 ha hb op_ne fun _ _ _ _ h1 h2 => ed_ne h1 h2
theorem xned {α : Type} {r : Rp α} [DecidableEq α] [Mo r] [A : Da r] {f g : R Er α} (ha : XE C a G m1 r f) {k : Nat} (hr : Room k C.X.A) (hb : XE C b G m2 r g) (hd : A.dep ≤ 64 := by decide) : XC C .NotEq a b G (f.bind fun x => g.bind fun y => .ok (!decide (x = y))) := xc2 ha hb (op_neD hr.units) fun _ _ _ _ h1 h2 => ed_neQ h1 h2 hd
/-- a sign in a text -/
def inTR (x y : List Nat) : R Er Bool := match x with
  | [c] => .ok (decide (c ∈ y))
  | _ => .no
def niTR (x y : List Nat) : R Er Bool := match x with
  | [c] => .ok (!decide (c ∈ y))
  | _ => .no
theorem xinT {f g : R Er (List Nat)} (ha : XE C a G m1 rTx f) (hb : XE C b G m2 rTx g) : XC C .In a b G (f.bind fun x => g.bind fun y => inTR x y) := xc2 ha hb op_in_sign fun F0 H0 x y h1 h2 => by
  match x with
  | [] => trivial
  | [c] => exact ed_inT h1 h2
  | _ :: _ :: _ => trivial
theorem xniT {f g : R Er (List Nat)} (ha : XE C a G m1 rTx f) (hb : XE C b G m2 rTx g) : XC C .NotIn a b G (f.bind fun x => g.bind fun y => niTR x y) := xc2 ha hb op_notIn_sign fun F0 H0 x y h1 h2 => by
  match x with
  | [] => trivial
  | [c] => exact ed_niT h1 h2
  | _ :: _ :: _ => trivial
end
end LJ
set_option Elab.async false
set_option linter.all false
set_option maxRecDepth 100000
set_option maxHeartbeats 4000000
set_option autoImplicit false
namespace R
variable {ε δ α β γ S T : Type}
/-- through a list, one state after the other -/
def foldR (f : S → α → R ε S) : S → List α → R ε S
  | s, [] => .ok s
  | s, x :: xs => (f s x).bind fun s' => foldR f s' xs
@[simp] theorem ok_bind (a : α) (k : α → R ε β) : (R.ok a : R ε α).bind k = k a := rfl
@[simp] theorem er_bind (e : ε) (k : α → R ε β) : (R.er e : R ε α).bind k = .er e := rfl
@[simp] theorem no_bind (k : α → R ε β) : (R.no : R ε α).bind k = .no := rfl
@[simp] theorem ok_thn (a : α) (g : ε → δ) (k : α → R δ β) : (R.ok a : R ε α).thn g k = k a := rfl
@[simp] theorem er_thn (e : ε) (g : ε → δ) (k : α → R δ β) : (R.er e : R ε α).thn g k = .er (g e) := rfl
@[simp] theorem no_thn (g : ε → δ) (k : α → R δ β) : (R.no : R ε α).thn g k = .no := rfl
theorem bind_bind (x : R ε α) (k : α → R ε β) (l : β → R ε γ) : (x.bind k).bind l = x.bind fun a => (k a).bind l := by cases x <;> rfl
theorem thn_bind (x : R ε α) (g : ε → δ) (k : α → R δ β) (l : β → R δ γ) : (x.thn g k).bind l = x.thn g fun a => (k a).bind l := by cases x <;> rfl
theorem cond_bind (c : Bool) (x y : R ε α) (k : α → R ε β) : (cond c x y).bind k = cond c (x.bind k) (y.bind k) := by cases c <;> rfl
theorem foldR_run {f : S → α → R ε S} {B : S → α → (S → R ε β) → R ε β} (h : ∀ s x k, B s x k = (f s x).bind k) : ∀ (xs : List α) (s : S) (k : S → R ε β), LK.runC B s xs k = (foldR f s xs).bind k
  | [], s, k => rfl
  | x :: xs, s, k => by
    show B s x _ = ((f s x).bind _).bind k
    rw [h, bind_bind]
    congr 1
    funext s'
    exact foldR_run h xs s' k
/-- all items, none may raise -/
def mapR (p : α → R ε Bool) (f : α → R ε β) : List α → R δ (List β)
  | [] => .ok []
  | x :: xs => (p x).noer.bind fun b => cond b ((f x).noer.bind fun y => (mapR p f xs).bind fun ys => .ok (y :: ys)) (mapR p f xs)
end R
namespace LK
open PySem L2
section
variable {F0 H0 F H F' H' : Hp} {G G' : List Slot} {σ σ' : L2.St}
/-- the same slots at other places -/
theorem EnvOk.re (E : EnvOk F0 H0 G σ F H) (φ : Nat → Nat) (len : σ'.length = G'.length) (h : ∀ i s, G'[i]? = some s → (∃ x, σ'[i]? = some x) ∧ (s = .no ∨ (G[φ i]? = some s ∧ σ'[i]? = σ[φ i]?)))
    (inj : ∀ i j, φ i = φ j → i = j ∨ ∀ M iM, G'[i]? ≠ some (.ow M iM) ∨ G'[j]? = some .no) : EnvOk F0 H0 G' σ' F H := by
  obtain ⟨fp, E⟩ := E
  refine ⟨fun i => fp (φ i), E.gr, len, fun i s hi => ?_, fun i j M iM N iN a hij h1 h2 h3 => ?_⟩
  · obtain ⟨⟨x, hx⟩, h | ⟨h, e⟩⟩ := h i s hi
    · subst h; exact ⟨x, hx, trivial⟩
    · obtain ⟨y, hy, ok⟩ := E.at_ _ s h
      exact ⟨y, by rw [e, hy], ok⟩
  · obtain ⟨_, q | ⟨q1, _⟩⟩ := h i _ h1
    · cases q
    obtain ⟨_, q | ⟨q2, _⟩⟩ := h j _ h2
    · cases q
    refine E.dj (φ i) (φ j) M iM N iN a (fun e => ?_) q1 q2 h3
    rcases inj i j e with z | z
    · exact hij z
    · rcases z M iM with z | z
      · exact z h1
      · rw [h2] at z; cases z
theorem EnvOk.tail {s : Slot} {x : Option V} (E : EnvOk F0 H0 (s :: G) (x :: σ) F H) : EnvOk F0 H0 G σ F H :=
  E.re (fun i => i + 1) (by have := E.len; simpa using this) (fun i t hi => by
    have hl : i < σ.length := by have := E.len; simp at this; rw [this]; exact (List.getElem?_eq_some_iff.mp hi).1
    exact ⟨⟨_, List.getElem?_eq_getElem hl⟩, .inr ⟨by simpa using hi, by simp⟩⟩) (fun i j e => .inl (by omega))
theorem EnvOk.head {s : Slot} {x : Option V} (E : EnvOk F0 H0 (s :: G) (x :: σ) F H) : EnvOk F0 H0 [s] [x] F H :=
  E.re (fun i => i) rfl (fun i t hi => by
    cases i with
    | zero => exact ⟨⟨x, rfl⟩, .inr ⟨by simpa using hi, by simp⟩⟩
    | succ i => simp at hi) (fun i j e => .inl e)
theorem EnvOk.move {s : Slot} {x : Option V} {i : Nat} (E : EnvOk F0 H0 (s :: G) (x :: σ) F H) : EnvOk F0 H0 (G.set i s) (σ.set i x) F H := by
  have hl := E.len
  simp at hl
  refine E.re (fun j => if j = i then 0 else j + 1) (by simp [hl]) (fun j t hj => ?_) (fun j k e => ?_)
  · rcases set_get hj with ⟨rfl, h1, h2⟩ | ⟨h1, h2⟩
    · subst h2
      refine ⟨⟨x, by rw [List.getElem?_set_self (by omega)]⟩, .inr ⟨by simp, by rw [List.getElem?_set_self (by omega)]; simp⟩⟩
    · have hjl : j < σ.length := by rw [hl]; exact (List.getElem?_eq_some_iff.mp h2).1
      have hne : ¬ j = i := fun e => h1 e.symm
      refine ⟨⟨σ[j], by rw [List.getElem?_set_ne h1]; exact List.getElem?_eq_getElem hjl⟩, .inr ⟨by simp [hne, h2], by rw [List.getElem?_set_ne h1]; simp [hne]⟩⟩
  · left
    by_cases a : j = i <;> by_cases b : k = i <;> simp [a, b] at e <;> omega
/-- a datum ahead of the slots -/
theorem EnvOk.push {s : Slot} {v : V} (E : EnvOk F0 H0 G σ F H) (ok : SlotOk H0 F H (some v) [] s) (hn : ∀ M im, s ≠ .ow M im) : EnvOk F0 H0 (s :: G) (some v :: σ) F H := by
  obtain ⟨fp, E⟩ := E
  refine ⟨fun i => match i with | 0 => [] | j + 1 => fp j, E.gr, by simp [E.len], fun i t h => ?_, fun i j M iM N iN a hij h1 h2 h3 => ?_⟩
  · cases i with
    | zero => simp at h; subst h; exact ⟨_, rfl, ok⟩
    | succ i =>
      obtain ⟨x, hx, o⟩ := E.at_ i t (by simpa using h)
      exact ⟨x, by simpa using hx, o⟩
  · cases i with
    | zero => exact absurd (Option.some.inj h1) (hn M iM)
    | succ i =>
      cases j with
      | zero => exact absurd (Option.some.inj h2) (hn N iN)
      | succ j => exact E.dj i j M iM N iN a (by omega) (by simpa using h1) (by simpa using h2) h3
/-- a new own thing ahead of the slots -/
theorem EnvOk.pushO {M : Mu} {im : MoM M} {p : Addr} {S : List Addr} (E : EnvOk F0 H0 G σ F H) (g : Gr F H F' H') (hS : ∀ a ∈ S, H a = none ∧ F' a = none) (m : M F' H' p S) : EnvOk F0 H0 (.ow M im :: G) (some (.ref p) :: σ) F' H' := by
  have E2 : EnvOk F0 H0 (.no :: G) (none :: σ) F H := by
    obtain ⟨fp, E⟩ := E
    refine ⟨fun i => match i with | 0 => [] | j + 1 => fp j, E.gr, by simp [E.len], fun i t h => ?_, fun i j M iM N iN a hij h1 h2 h3 => ?_⟩
    · cases i with
      | zero => simp at h; subst h; exact ⟨_, rfl, trivial⟩
      | succ i =>
        obtain ⟨x, hx, o⟩ := E.at_ i t (by simpa using h)
        exact ⟨x, by simpa using hx, o⟩
    · cases i with
      | zero => cases Option.some.inj h1
      | succ i =>
        cases j with
        | zero => cases Option.some.inj h2
        | succ j => exact E.dj i j M iM N iN a (by omega) (by simpa using h1) (by simpa using h2) h3
  exact E2.setO (i := 0) (im := im) g hS m
end
end LK
namespace LJ
open PySem L2 LK LKX PyProof.Rows PySem.Spec
section
variable {C : Cn} {G : List Slot} {e : Expr}
/-- not of the entry -/
def Slot.nb : Slot → Prop
  | .bw _ _ _ => False
  | _ => True
theorem envJoin {F0 H0 F H F' H' : Hp} {σ : L2.St} {s : Slot} {v : V} (E : EnvOk F0 H0 G σ F H) (g : Gr F H F' H') (E' : EnvOk F H [s] [some v] F' H') (hn : Slot.nb s) : EnvOk F0 H0 (s :: G) (some v :: σ) F' H' := by
  obtain ⟨fp, E'⟩ := E'
  obtain ⟨x, hx, ok⟩ := E'.at_ 0 s rfl
  cases Option.some.inj hx
  cases s with
  | bw r im a => exact hn.elim
  | no => exact (E.gro g).push (s := .no) trivial fun _ _ z => nomatch z
  | fz r im a => exact (E.gro g).push (s := .fz r im a) ok fun _ _ z => nomatch z
  | ow M im =>
    obtain ⟨p, e, h1, h2⟩ := ok
    cases Option.some.inj e
    exact E.pushO (S := fp 0) g (fun a ha => ⟨(h1 a ha).2, (h1 a ha).1⟩) h2
theorem env1 {F H F' H' : Hp} {s : Slot} {v : V} (g : Gr F H F' H') (ok : SlotOk H F' H' (some v) [] s) (hn : ∀ M im, s ≠ .ow M im) : EnvOk F H [s] [some v] F' H' :=
  EnvOk.push (G := []) (σ := []) ⟨fun _ => [], g, rfl, fun i s h => by simp at h, fun i j M iM N iN a _ h => by simp at h⟩ ok hn
theorem env1o {F H F' H' : Hp} {M : Mu} {im : MoM M} {p : Addr} {S : List Addr} (e : Ex F H) (g : Gr F H F' H') (hS : ∀ a ∈ S, H a = none ∧ F' a = none) (m : M F' H' p S) : EnvOk F H [.ow M im] [some (.ref p)] F' H' :=
  EnvOk.pushO (G := []) (σ := []) ⟨fun _ => [], Gr.refl e, rfl, fun i s h => by simp at h, fun i j M iM N iN a _ h => by simp at h⟩ g hS m
theorem dv_ed {α : Type} {r : Rp α} [im : Mo r] {a : α} {F0 H0 : Hp} {t : TE} (h : Ed F0 H0 t G .sh r a) : Dv F0 H0 t G (.fz r im a) := fun σ F H E Q q => h σ F H E Q fun v F' H' g hv => q v F' H' g (env1 g ⟨v, rfl, hv⟩ fun _ _ z => nomatch z)
theorem ed_dv {α : Type} {r : Rp α} {im : Mo r} {a : α} {F0 H0 : Hp} {t : TE} (h : Dv F0 H0 t G (.fz r im a)) : Ed F0 H0 t G .sh r a := fun σ F H E Q q => h σ F H E Q fun v F' H' g E' => by
  obtain ⟨w, hw, ok⟩ := E'.fz_at (i := 0) rfl
  cases Option.some.inj (Option.some.inj hw)
  exact q v F' H' g ok
theorem dv_en {α : Type} {r : Rp α} [im : Mo r] {xs : List α} {F0 H0 : Hp} {t : TE} (h : En F0 H0 t G r xs) : Dv F0 H0 t G (sL r xs) := fun σ F H E Q q => h σ F H E Q fun p vs F' H' g h1 h2 h3 h4 h5 =>
  q _ F' H' g (env1o (S := [p]) E.gr.fh g (fun a ha => by rw [List.mem_singleton.mp ha]; exact ⟨h1, h2⟩) ⟨rfl, vs, h3, h4, h5⟩)
theorem xn {α : Type} {r : Rp α} [im : Mo r] {f : R Er α} (h : XE C e G .sh r f) : XN C e G (fun a => .fz r im a) f := ⟨fun F0 H0 => by
  have h := h.h F0 H0
  cases f with
  | ok a => exact dv_ed h
  | er x => exact h
  | no => trivial⟩
theorem xsh {α : Type} {r : Rp α} {im : Mo r} {f : R Er α} (h : XN C e G (fun a => .fz r im a) f) : XE C e G .sh r f := ⟨fun F0 H0 => by
  have h := h.h F0 H0
  cases f with
  | ok a => exact ed_dv h
  | er x => exact h
  | no => trivial⟩
/-- an own thing that may be frozen -/
class Fzz {α : Type} (mu : α → Mu) (r : outParam (Rp α)) : Prop where
  fz : ∀ {F F' H : Hp} {p : Addr} {S : List Addr} {a : α}, mu a F H p S → (∀ x ∈ S, F' x = H x) → Ex F F' → r F' (.ref p) a
instance {α : Type} (r : Rp α) [Mo r] : Fzz (mL r) (rLst r) := ⟨fun {F F' H p S a} ⟨hS, vs, e, h1, h2⟩ hp ee => ⟨p, vs, rfl, by rw [hp p (by rw [hS]; simp), e], h1, pmap (fun _ _ z => mox ee z) h2⟩⟩
theorem xfz {α : Type} {mu : α → Mu} {iM : ∀ a, MoM (mu a)} {r : Rp α} [Fzz mu r] [im : Mo r] {f : R Er α} (h : XN C e G (fun a => .ow (mu a) (iM a)) f) : XE C e G .sh r f := ⟨fun F0 H0 => by
  have h := h.h F0 H0
  cases f with
  | ok a =>
    refine ed_dv (im := im) fun σ F H E Q q => h σ F H E Q fun v F' H' g E' => ?_
    obtain ⟨F2, E2, g2, _⟩ := E'.freeze (i := 0) (s := sF r a) rfl (fun p S F' m hp ee _ => ⟨.ref p, rfl, Fzz.fz m hp ee⟩) (fun _ _ z => nomatch z)
    exact q v F2 H' g2 E2
  | er x => exact h
  | no => trivial⟩
/-- flat data may be kept as they are -/
theorem xfl {α : Type} {r : Rp α} [Fl r] {m m' : Md} {f : R Er α} (h : XE C e G m r f) : XE C e G m' r f := ⟨fun F0 H0 => by
  have h := h.h F0 H0
  cases f with
  | ok a => exact Ed.fl h
  | er x => exact h
  | no => trivial⟩
theorem xbo {α : Type} {r : Rp α} [Mo r] {m : Md} {f : R Er α} (h : XE C e G m r f) : XE C e G .bo r f := ⟨fun F0 H0 => by
  have h := h.h F0 H0
  cases f with
  | ok a => exact Ed.bo h
  | er x => exact h
  | no => trivial⟩
end
section
variable {C : Cn} {G : List Slot} {a b c : Expr} {rest : List Expr} {pos : Pos} {m : Md}
theorem tr_bind {f : R Er Bool} {g : Bool → R Er Bool} {F0 H0 : Hp} {t u : TT} (h : Tr C F0 H0 t G f) (hx : ∀ x, Tx C F0 H0 t G x → Tx C F0 H0 u G x) (k : ∀ b, Et F0 H0 t G b → Tr C F0 H0 u G (g b)) : Tr C F0 H0 u G (f.bind g) := by
  cases f with
  | ok b => exact k b h
  | er e => exact hx e h
  | no => trivial
/-- an expression as a test -/
theorem xqv {f : R Er Bool} (h : XE C a G m rBl f) (he : ∀ whole, isTrue a C.X.env whole = (do let v ← whole; standAt a.pos; holding [v] (truthy v)) := by intro _; rfl) : XQ C a G f := ⟨fun F0 H0 => by
  have h := h.h F0 H0
  cases f with
  | ok x => exact fun σ F H E Q q => tT_le (pt_val pE he) (et_B (te := tE C.X a) (F0 := F0) (H0 := H0) h σ F H E Q q)
  | er e => exact fun σ F H E w Q => tT_le (pt_val pE he) (h σ F H E w _)
  | no => trivial⟩
/-- a comparison as a test: its two operands -/
theorem xqw {f : R Er Bool} (h : XW C a G f) : XQ C a G f := ⟨fun F0 H0 => (h.h F0 H0).le fun _ _ _ q => tT_le pW.pt q⟩
theorem xqnot {f : R Er Bool} (h : XQ C a G f) : XQ C (.UnaryOp .Not a pos) G (f.bind fun b => .ok (!b)) := ⟨fun F0 H0 =>
  (tr_bind (u := tNot (tT C.X a)) (g := fun b => .ok (!b)) (h.h F0 H0) (fun x z σ F H E w Q => z σ F H E w _) fun b h => et_not h).le fun _ _ _ q => tT_le (pt_not pT) q⟩
theorem xqand1 {f : R Er Bool} (h : XQ C a G f) : XW C (.BoolOp .And [a] pos) G f := ⟨fun F0 H0 => (h.h F0 H0).le fun _ _ _ q => tW_le (pw_and1 pT) q⟩
theorem xqor1 {f : R Er Bool} (h : XQ C a G f) : XW C (.BoolOp .Or [a] pos) G f := ⟨fun F0 H0 => (h.h F0 H0).le fun _ _ _ q => tW_le (pw_or1 pT) q⟩
theorem xqand {f g : R Er Bool} (h : XQ C a G f) (h2 : XW C (.BoolOp .And (b :: rest) pos) G g) : XW C (.BoolOp .And (a :: b :: rest) pos) G (f.bind fun x => cond x g (.ok false)) := ⟨fun F0 H0 =>
  (tr_bind (u := tAnd (tT C.X a) (tW C.X (.BoolOp .And (b :: rest) pos))) (h.h F0 H0) (fun x z σ F H E w Q => z σ F H E w _) fun x h1 => by
    cases x with
    | false => exact fun σ F H E Q q => h1 σ F H E _ fun F1 H1 g1 => by rw [if_neg (by decide)]; exact q F1 H1 g1
    | true =>
      have h2 := h2.h F0 H0
      show Tr C F0 H0 _ G g
      cases g with
      | ok y => exact fun σ F H E Q q => h1 σ F H E _ fun F1 H1 g1 => by rw [if_pos rfl]; exact h2 σ F1 H1 (E.gro g1) Q fun F2 H2 g2 => q F2 H2 (g1.trans g2)
      | er e => exact fun σ F H E w Q => h1 σ F H E _ fun F1 H1 g1 => by rw [if_pos rfl]; exact h2 σ F1 H1 (E.gro g1) (fun F' H' cls d g z => w F' H' cls d (g1.trans g) z) Q
      | no => trivial).le fun _ _ _ q => tW_le (pw_and pT pW) q⟩
theorem xqor {f g : R Er Bool} (h : XQ C a G f) (h2 : XW C (.BoolOp .Or (b :: rest) pos) G g) : XW C (.BoolOp .Or (a :: b :: rest) pos) G (f.bind fun x => cond x (.ok true) g) := ⟨fun F0 H0 =>
  (tr_bind (u := tOr (tT C.X a) (tW C.X (.BoolOp .Or (b :: rest) pos))) (h.h F0 H0) (fun x z σ F H E w Q => z σ F H E w _) fun x h1 => by
    cases x with
    | true => exact fun σ F H E Q q => h1 σ F H E _ fun F1 H1 g1 => by rw [if_pos rfl]; exact q F1 H1 g1
    | false =>
      have h2 := h2.h F0 H0
      show Tr C F0 H0 _ G g
      cases g with
      | ok y => exact fun σ F H E Q q => h1 σ F H E _ fun F1 H1 g1 => by rw [if_neg (by decide)]; exact h2 σ F1 H1 (E.gro g1) Q fun F2 H2 g2 => q F2 H2 (g1.trans g2)
      | er e => exact fun σ F H E w Q => h1 σ F H E _ fun F1 H1 g1 => by rw [if_neg (by decide)]; exact h2 σ F1 H1 (E.gro g1) (fun F' H' cls d g z => w F' H' cls d (g1.trans g) z) Q
      | no => trivial).le fun _ _ _ q => tW_le (pw_or pT pW) q⟩
end
section
variable {C : Cn} {β ρ ε Z S S' T : Type} {J : Jn β ρ ε Z} {G : List Slot} {slk : S' → List Slot} {e : Expr} {rest st : List Stmt} {pos : Pos}
theorem Ans.air {F0 H0 : Hp} {A : R ε ρ → Prop} {rt : VK} (an : Ans C J F0 H0 A rt) {z : Z} (hz : Lw G (J.slz z)) {x : Er} (h : A (.er (J.em x z))) {σ : L2.St} {F H : Hp} (E : EnvOk F0 H0 G σ F H) : ∀ F' H' cls d, Gr F H F' H' → rEr C.T F' cls d x → C.W cls d σ H' :=
  fun F' H' cls d g r => an.er x z h σ F' H' cls d ((E.gro g).weak hz) r
theorem xb_nil (s : S') (h : Lw G (slk s)) : XB C J [] G slk (fun k => k s) := ⟨fun F0 H0 A D an k hk hA σ F H E => tS_le pss_nil (hk s hA σ F H (E.weak h))⟩
theorem xb_set {α : Type} {sb : α → Slot} {f : R Er α} {M : α → (S' → R ε ρ) → R ε ρ} {x : Str} {pos' : Pos} (i : Nat) (G' : α → List Slot) (z : Z) (hz : Lw G (J.slz z)) (he : XN C e G sb f) (hG : ∀ a, G.set i (sb a) = G' a) (hr : ∀ a, XB C J rest (G' a) slk (M a)) (hn : ∀ a, Slot.nb (sb a) := by intro; trivial)
    (hi : C.X.N[i]? = some x := by rfl) (hx : Loc C.X.env.scope x := by first | exact .inl rfl | exact .inr rfl) (hs : swapsWith e (some (.Name x pos')) pos.line C.X.env = pure false := by rfl) (hf : C.X.fn x = true ∨ C.X.env.scope.names.lookup x = some .local := by first | exact .inl rfl | exact .inr rfl) :
    XB C J (.Assign [.Name x pos'] e pos :: rest) G slk (fun k => f.thn (fun y => J.em y z) fun a => M a k) := ⟨fun F0 H0 A D an k hk hA σ F H E => by
  have he := he.h F0 H0
  refine tS_le (pss_cons (ps_set C.nd hi hx pE hs hf) pS) ?_
  cases f with
  | ok a => exact he σ F H E _ fun v F' H' g E' => (hr a).h F0 H0 A D an k hk hA _ F' H' (hG a ▸ (envJoin E g E' (hn a)).move)
  | er y => exact he σ F H E (an.air hz hA E) _
  | no => exact (an.no hA).elim⟩
theorem xb_ret {α : Type} {sb : α → Slot} {f : R Er α} (z : Z) (hz : Lw G (J.slz z)) (b : α → β) (hb : ∀ a, sb a = J.rs (b a)) (he : XN C e G sb f) (hn : ∀ a, Slot.nb (sb a) := by intro; trivial) :
    XB C J (.Return (some e) pos :: rest) G slk (fun _ => f.thn (fun y => J.em y z) fun a => .ok (J.ret (b a) z)) := ⟨fun F0 H0 A D an k hk hA σ F H E => by
  have he := he.h F0 H0
  refine tS_le (pss_cons (ps_ret pE) pS) ?_
  cases f with
  | ok a => exact he σ F H E _ fun v F' H' g E' => an.ret (b a) z hA σ F' H' v (EnvOk.weak (envJoin E g E' (hn a)) ⟨.inr (hb a), hz⟩)
  | er y => exact he σ F H E (an.air hz hA E) _
  | no => exact (an.no hA).elim⟩
theorem xb_expr {α : Type} {r : Rp α} {m : Md} {f : R Er α} {M : (S' → R ε ρ) → R ε ρ} (z : Z) (hz : Lw G (J.slz z)) (he : XE C e G m r f) (hr : XB C J rest G slk M) (hs : swapsWith e none pos.line C.X.env = pure false := by rfl) :
    XB C J (.Expr e pos :: rest) G slk (fun k => f.thn (fun y => J.em y z) fun _ => M k) := ⟨fun F0 H0 A D an k hk hA σ F H E => by
  have he := he.h F0 H0
  refine tS_le (pss_cons (ps_expr pE hs) pS) ?_
  cases f with
  | ok a => exact he σ F H E _ fun v F' H' g _ => hr.h F0 H0 A D an k hk hA _ F' H' (E.gro g)
  | er y => exact he σ F H E (an.air hz hA E) _
  | no => exact (an.no hA).elim⟩
theorem xb_if {c : Expr} {a b : List Stmt} {f : R Er Bool} {slj : S → List Slot} {M1 M2 : (S → R ε ρ) → R ε ρ} {M : S → (S' → R ε ρ) → R ε ρ} (z : Z) (hz : Lw G (J.slz z)) (hc : XQ C c G f) (h1 : XB C J a G slj M1) (h2 : XB C J b G slj M2) (hr : ∀ s, XB C J rest (slj s) slk (M s)) :
    XB C J (.If c a b pos :: rest) G slk (fun k => f.thn (fun y => J.em y z) fun x => cond x (M1 fun s => M s k) (M2 fun s => M s k)) := ⟨fun F0 H0 A D an k hk hA σ F H E => by
  have hc := hc.h F0 H0
  refine tS_le (pss_cons (ps_if pT pS pS) pS) ?_
  cases f with
  | ok x =>
    refine hc σ F H E _ fun F' H' g => ?_
    cases x with
    | true => rw [if_pos rfl]; exact h1.h F0 H0 A { D with nx := tS C.X rest D } an _ (fun s hs => (hr s).h F0 H0 A D an k hk hs) hA σ F' H' (E.gro g)
    | false => rw [if_neg (by decide)]; exact h2.h F0 H0 A { D with nx := tS C.X rest D } an _ (fun s hs => (hr s).h F0 H0 A D an k hk hs) hA σ F' H' (E.gro g)
  | er y => exact hc σ F H E (an.air hz hA E) _
  | no => exact (an.no hA).elim⟩
/-- .. both ways go on: by values -/
theorem xb_ifv {c : Expr} {a b : List Stmt} {f : R Er Bool} {slj : S → List Slot} {M1 M2 : (S → R ε ρ) → R ε ρ} {M : S → (S' → R ε ρ) → R ε ρ} (z : Z) (v1 v2 : R ε S) (hz : Lw G (J.slz z)) (hc : XQ C c G f) (h1 : XB C J a G slj M1) (h2 : XB C J b G slj M2) (e1 : ∀ k, M1 k = v1.bind k) (e2 : ∀ k, M2 k = v2.bind k) (hr : ∀ s, XB C J rest (slj s) slk (M s)) :
    XB C J (.If c a b pos :: rest) G slk (fun k => (f.thn (fun y => J.em y z) fun x => cond x v1 v2).bind fun s => M s k) := ⟨fun F0 H0 A D an k hk hA => by
  refine (xb_if z hz hc h1 h2 hr).h F0 H0 A D an k hk ?_
  have e : (fun x => cond x (M1 fun s => M s k) (M2 fun s => M s k)) = fun x => (cond x v1 v2).bind fun s => M s k := by
    funext x; rw [e1, e2, R.cond_bind]
  show A (f.thn _ fun x => cond x (M1 fun s => M s k) (M2 fun s => M s k))
  rw [e, ← R.thn_bind]; exact hA⟩
end
def tI (X : Cx) (tg e : Expr) : TI := fun σ H Rr => ∀ (pins : List (Addr × Obj)) (s : Shared), Inv X pins σ H s → wpAny (model X.prog X.w) X.A (eval e X.env) (fun v s1 => wpAny (model X.prog X.w) X.A (pyIter v) (PIE X pins σ tg Rr) X.xe s1) X.xe s
def tG (X : Cx) (tg : Expr) : TG := fun v σ H Q => ∀ (pins : List (Addr × Obj)) (s : Shared) (u : Value), Inv X pins σ H s → RelV v u → wpAny (model X.prog X.w) X.A (assign tg X.env u) (fun _ s' => ∃ σ' H', Inv X pins σ' H' s' ∧ Q σ' H') X.xe s
theorem pI {X : Cx} {tg e : Expr} : PI X tg e (tI X tg e) := ⟨fun pins s σ H Rr I h => h pins s I⟩
theorem pG {X : Cx} {tg : Expr} : PG X tg (tG X tg) := ⟨fun pins s σ H v u Q I r h => h pins s u I r⟩
theorem tI_le {X : Cx} {tg e : Expr} {w : TI} (h : PI X tg e w) {σ : L2.St} {H : Hp} {Rr : It → Hp → Prop} (q : w σ H Rr) : tI X tg e σ H Rr := fun pins s I => h.run pins s σ H Rr I q
theorem tG_le {X : Cx} {tg : Expr} {g : TG} (h : PG X tg g) {v : V} {σ : L2.St} {H : Hp} {Q : L2.St → Hp → Prop} (q : g v σ H Q) : tG X tg v σ H Q := fun pins s u I r => h.run pins s σ H v u Q I r q
def Ix (C : Cn) (F0 H0 : Hp) (w : TI) (G : List Slot) (e : Er) : Prop := ∀ σ F H, EnvOk F0 H0 G σ F H → (∀ F' H' cls d, Gr F H F' H' → rEr C.T F' cls d e → C.W cls d σ H') → ∀ Rr : It → Hp → Prop, w σ H Rr
def Ir (C : Cn) (F0 H0 : Hp) {α : Type} (w : TI) (G : List Slot) (m : Md) (r : Rp α) : R Er (List α) → Prop
  | .ok xs => Ei F0 H0 w G m r xs
  | .er e => Ix C F0 H0 w G e
  | .no => True
structure XI (C : Cn) (tg e : Expr) (G : List Slot) (m : Md) {α : Type} (r : Rp α) (f : R Er (List α)) : Prop where
  h : ∀ F0 H0, Ir C F0 H0 (tI C.X tg e) G m r f
/-- a target's store, told for every heap -/
def Egs {α : Type} (H0 : Hp) (g : TG) (m : Md) (r : Rp α) (up : α → List Slot → List Slot) (tg : List Nat) : Prop := ∀ F0 G σ F H v x, EnvOk F0 H0 G σ F H → r (pk m F H0 H) v x → ∀ Q : L2.St → Hp → Prop,
  (∀ σ', (∀ F' H', Ex F F' → EnvOk F0 H0 G σ F' H' → EnvOk F0 H0 (up x G) σ' F' H') → (∀ vs, (∀ j ∈ tg, j ∈ vs) → wipe σ' vs = wipe σ vs) → Q σ' H) → g v σ H Q
theorem Egs.eg {α : Type} {H0 : Hp} {g : TG} {m : Md} {r : Rp α} {up : α → List Slot → List Slot} {tg : List Nat} (h : Egs H0 g m r up tg) : Eg H0 g m r up tg := fun F0 G σ F H v x E hv Q q => h F0 G σ F H v x E hv Q fun σ' a b => q σ' (a F H (Ex.refl F) E) b
theorem pslot_okS {α : Type} {m : Md} [h : Md.Ok m] {r : Rp α} {im : Mo r} {F H0 H F' H' : Hp} {v : V} {x : α} (e : Ex F F') (hr : r (pk m F H0 H) v x) : SlotOk H0 F' H' (some v) [] (pslot m r im x) := by
  cases m with
  | sh => exact ⟨v, rfl, im.ex e hr⟩
  | b0 => exact ⟨v, rfl, hr⟩
  | bo => exact absurd rfl h.ok
structure XG (C : Cn) (tg : Expr) (m : Md) {α : Type} (r : Rp α) (up : α → List Slot → List Slot) (tl : List Nat) : Prop where
  h : ∀ H0, Egs H0 (tG C.X tg) m r up tl
section
variable {C : Cn} {G : List Slot} {m m1 m2 : Md} {tg e a b : Expr} {x : Str} {p pos : Pos}
theorem xg_le {α : Type} {r : Rp α} {g : TG} {up : α → List Slot → List Slot} {tl : List Nat} (p : PG C.X tg g) (h : ∀ H0, Egs H0 g m r up tl) : XG C tg m r up tl := ⟨fun H0 F0 G σ F H v x E hv Q q => tG_le p (h H0 F0 G σ F H v x E hv Q q)⟩
theorem xg_name {α : Type} {r : Rp α} [im : Mo r] [Md.Ok m] (j : Nat) (hN : C.X.N[j]? = some x := by rfl) (hx : Loc C.X.env.scope x := by first | exact .inl rfl | exact .inr rfl) (hf : C.X.fn x = true ∨ C.X.env.scope.names.lookup x = some .local := by first | exact .inl rfl | exact .inr rfl) :
    XG C (.Name x pos) m r (fun x G => G.set j (pslot m r im x)) [j] := xg_le (pg_name C.nd hN hx hf) fun H0 F0 G σ F H v x E h Q q => q _ (fun F' H' e E' => E'.set (pslot_okS e h) pslot_no) fun vs hv => wipe_set (hv j List.mem_cons_self)
theorem xg_pr {α β : Type} {r : Rp α} {s : Rp β} [im : Mo r] [is : Mo s] [Md.Ok m] {x y : Str} {p1 p2 p3 : Pos} {tn : Nat} (i j : Nat) (hN : C.X.N[i]? = some x := by rfl) (hx : Loc C.X.env.scope x := by first | exact .inl rfl | exact .inr rfl) (hf : C.X.fn x = true ∨ C.X.env.scope.names.lookup x = some .local := by first | exact .inl rfl | exact .inr rfl)
    (hN2 : C.X.N[j]? = some y := by rfl) (hx2 : Loc C.X.env.scope y := by first | exact .inl rfl | exact .inr rfl) (hf2 : C.X.fn y = true ∨ C.X.env.scope.names.lookup y = some .local := by first | exact .inl rfl | exact .inr rfl) (hc : C.X.calm = true := by rfl) (hst : (assignEach [.Name x p1, .Name y p2] C.X.env).findIdx? (·.1) = none := by rfl) :
    XG C (.Tuple [.Name x p1, .Name y p2] tn p3) m (rPr r s) (fun x G => (G.set i (pslot m r im x.1)).set j (pslot m s is x.2)) [i, j] := xg_le (pg_tup hc (pgs_cons (pg_name C.nd hN hx hf) (pgs_cons (pg_name C.nd hN2 hx2 hf2) pgs_nil)) rfl hst) fun H0 F0 G σ F H v x E h Q q => by
  obtain ⟨p, a, b, rfl, h1, h2, h3⟩ := h
  refine ⟨p, _, rfl, SqT.of (pk_now E.gr _ _ h1), rfl, a, [b], rfl, b, [], rfl, rfl, ?_⟩
  exact q _ (fun F' H' e E' => (E'.set (pslot_okS e h2) pslot_no).set (pslot_okS e h3) pslot_no) fun vs hv => by
    rw [wipe_set (hv j (by simp)), wipe_set (hv i (by simp))]
theorem ir_bind {α γ : Type} {rx : Rp α} {rz : Rp γ} {t : TE} {w : TI} {f : R Er α} {g : α → R Er (List γ)} {F0 H0 : Hp} (h : Dr C F0 H0 t G m1 rx f) (hx : ∀ x, Dx C F0 H0 t G x → Ix C F0 H0 w G x) (k : ∀ x, Ed F0 H0 t G m1 rx x → Ir C F0 H0 w G m rz (g x)) : Ir C F0 H0 w G m rz (f.bind g) := by
  cases f with
  | ok a => exact k a h
  | er y => exact hx y h
  | no => trivial
theorem Ir.le {γ : Type} {rz : Rp γ} {w u : TI} {f : R Er (List γ)} {F0 H0 : Hp} (h : Ir C F0 H0 w G m rz f) (le : ∀ σ H Q, w σ H Q → u σ H Q) : Ir C F0 H0 u G m rz f := by
  cases f with
  | ok xs => exact fun σ F H E Rr q => le _ _ _ (h σ F H E Rr q)
  | er y => exact fun σ F H E z Rr => le _ _ _ (h σ F H E z Rr)
  | no => trivial
theorem ir_iff {γ : Type} {rz : Rp γ} {w : TI} {c : Prop} [Decidable c] {xs : List γ} {F0 H0 : Hp} (h : c → Ei F0 H0 w G m rz xs) : Ir C F0 H0 w G m rz (R.iff c (.ok xs)) := by
  unfold R.iff
  by_cases hc : c
  · rw [if_pos hc]; exact h hc
  · rw [if_neg hc]; trivial
def rngR (n : Int) : R Er (List Int) := R.iff (n ≤ 16777216 ∧ -16777216 ≤ n) (.ok (rng n))
theorem xi_rng {f : R Er Int} (h : XE C a G m1 rInt f) (hm : C.X.mg "range" = none) (hg : Gl C.X "range" := by rfl) (hs : starEach [a] C.X.env = [(false, eval a C.X.env)] := by rfl) (he : starEach [a] C.X.env = (false, eval a C.X.env) :: starEach [] C.X.env := by exact star_cons rfl) :
    XI C tg (.Call (.Name "range" p) [a] [] pos) G .sh rInt (f.bind rngR) := ⟨fun F0 H0 =>
  Ir.le (ir_bind (w := iRng1 (tCons (tE C.X a) tNil)) (h.h F0 H0) (fun x z σ F H E w Rr => z σ F H E w _) fun n hn => ir_iff fun c => ei_rng1 hn c.1 c.2) fun _ _ _ q => tI_le (pi_range1 hg hm (pa_cons pE pa_nil he) hs) q⟩
theorem xi_list {α : Type} {r : Rp α} [Mo r] [Md.Ok m] {f : R Er (List α)} (h : XE C e G m (rLst r) f) : XI C tg e G m r f := ⟨fun F0 H0 => by
  have h := h.h F0 H0
  refine Ir.le (w := iList C.X.K (tE C.X e)) ?_ fun _ _ _ q => tI_le (pi_list pE) q
  cases f with
  | ok xs => exact ei_list h
  | er y => exact fun σ F H E w Rr => h σ F H E w _
  | no => trivial⟩
end
section
variable {C : Cn} {β ρ ε Z S S' T : Type} {J : Jn β ρ ε Z} {G : List Slot} {slk : S' → List Slot} {tg it : Expr} {rest body : List Stmt} {pos : Pos} {m : Md}
theorem xb_for {α : Type} {r : Rp α} {fx : R Er (List α)} {up : α → List Slot → List Slot} {tl : List Nat} {M : T → (S' → R ε ρ) → R ε ρ} (B : T → α → (T → R ε ρ) → R ε ρ) (slT : T → List Slot) (t0 : T) (z : Z) (hz : Lw G (J.slz z)) (h0 : Lw G (slT t0))
    (po : PassesOwn (model C.X.prog C.X.w) C.X.A C.X.env C.X.xe) (hi : XI C tg it G m r fx) (hg : XG C tg m r up tl) (G' : T → α → List Slot) (hG : ∀ t x, up x (slT t) = G' t x) (hb : ∀ t x, XB C J body (G' t x) slT (B t x)) (hr : ∀ t, XB C J rest (slT t) slk (M t))
    (hc : C.X.calm = true := by rfl) (hs : ∀ x, foldedSetIterable it C.X.env x = pure x := by intro _; rfl) :
    XB C J (.For tg it body [] pos :: rest) G slk (fun k => fx.thn (fun y => J.em y z) fun xs => runC B t0 xs fun t => M t k) := ⟨fun F0 H0 A D an k hk hA => by
  intro σ F H E
  have hi := hi.h F0 H0
  refine tS_le (pss_cons (ps_for po hc pI pG pS hs) pS) ?_
  cases fx with
  | ok xs =>
    refine gk_run (P := fun xs t => A (runC B t xs fun t => M t k)) (ups := fun t _ => slT t) t0 hi (hg.h H0).eg h0 hA (fun F1 b x rest' t hx hP => ?_) (fun t hP => (hr t).h F0 H0 A D an k hk hP) σ F H E
    rw [hG]
    exact (hb t x).h F1 H0 A ⟨_, D.rt, _, _⟩ (an.down b) _ (fun t' hA' => fun σ F H E => ⟨t', F, hA', E⟩) hP
  | er y => exact hi σ F H E (an.air hz hA E) _
  | no => exact (an.no hA).elim⟩
/-- .. that goes through: by values -/
theorem xb_forv0 {α : Type} {r : Rp α} {fx : R Er (List α)} {up : α → List Slot → List Slot} {tl : List Nat} {M : T → (S' → R ε ρ) → R ε ρ} {B : T → α → (T → R ε ρ) → R ε ρ} (st : T → α → R ε T) (slT : T → List Slot) (t0 : T) (z : Z) (hz : Lw G (J.slz z)) (h0 : Lw G (slT t0))
    (po : PassesOwn (model C.X.prog C.X.w) C.X.A C.X.env C.X.xe) (hi : XI C tg it G m r fx) (hg : XG C tg m r up tl) (G' : T → α → List Slot) (hG : ∀ t x, up x (slT t) = G' t x) (hb : ∀ t x, XB C J body (G' t x) slT (B t x)) (hB : ∀ t x k, B t x k = (st t x).bind k) (hr : ∀ t, XB C J rest (slT t) slk (M t))
    (hc : C.X.calm = true := by rfl) (hs : ∀ x, foldedSetIterable it C.X.env x = pure x := by intro _; rfl) :
    XB C J (.For tg it body [] pos :: rest) G slk (fun k => fx.thn (fun y => J.em y z) fun xs => (R.foldR st t0 xs).bind fun t => M t k) := ⟨fun F0 H0 A D an k hk hA => by
  refine (xb_for B slT t0 z hz h0 po hi hg G' hG hb hr hc hs).h F0 H0 A D an k hk ?_
  have e : (fun xs => runC B t0 xs fun t => M t k) = fun xs => (R.foldR st t0 xs).bind fun t => M t k := by
    funext xs; exact R.foldR_run hB xs t0 _
  show A (fx.thn _ fun xs => runC B t0 xs fun t => M t k)
  rw [e]; exact hA⟩
end
section
variable {C : Cn} {β ρ ε Z S S' T : Type} {J : Jn β ρ ε Z} {G : List Slot} {slk : S' → List Slot} {e : Expr} {rest : List Stmt} {pos : Pos} {m : Md}
theorem xn_nil {α : Type} {r : Rp α} [Mo r] : XN C (.List [] pos) G (fun xs => sL r xs) (.ok []) := ⟨fun F0 H0 => by
  have h := dv_en (en_lst (F0 := F0) (H0 := H0) (G := G) (el_nil (r := r)) (by simp))
  exact fun σ F H E Q q => tE_le (pe_lst pa_nil) (h σ F H E Q q)⟩
def appR {α : Type} (xs : List α) (a : α) : R ε (List α) := R.iff (xs.length < 16777216) (.ok (xs ++ [a]))
theorem xb_app {α : Type} {r : Rp α} [im : Mo r] {f : R Er α} {xs : List α} {iM : MoM (mL r xs)} {M : List α → (S' → R ε ρ) → R ε ρ} {x : Str} {p1 p2 p3 : Pos} (i : Nat) (G' : List α → List Slot) (z : Z) (hz : Lw G (J.slz z)) (hi : G[i]? = some (.ow (mL r xs) iM)) (he : XE C e G .sh r f) (hG : ∀ a, G.set i (sL r a) = G' a) (hr : ∀ a, XB C J rest (G' a) slk (M a))
    (hN : C.X.N[i]? = some x := by rfl) (hv : Vis C.X.env.scope x := by first | exact Or.inl rfl | exact Or.inr (Or.inl rfl) | exact Or.inr (Or.inr rfl)) (hd : (x == ("__debug__" : Str)) = false := by decide) (hcd : (x == ("__classdict__" : Str)) = false := by decide)
    (hbase : attributeBase (.Name x p1) "append" C.X.env (eval (.Name x p1) C.X.env) = eval (.Name x p1) C.X.env := by rfl)
    (hfew : ((backTo p3 (starEach [e] C.X.env)).all (fun x => !x.1) && (backToKw p3 (keywordEach [] C.X.env)).all (fun x => x.1.isSome) && decide ([e].length + ([] : List Keyword).length + (if ([] : List Keyword).isEmpty then 0 else 1) < 30)) = true := by rfl)
    (hline : (p2.endLine == p3.line) = true := by rfl) (hs : starEach [e] C.X.env = (false, eval e C.X.env) :: starEach [] C.X.env := by exact star_cons rfl) (hplain : (backTo p3 (starEach [] C.X.env)).any (·.1) = false := by rfl)
    (hsw : swapsWith (.Call (.Attribute (.Name x p1) "append" p2) [e] [] p3) none pos.line C.X.env = pure false := by rfl) :
    XB C J (.Expr (.Call (.Attribute (.Name x p1) "append" p2) [e] [] p3) pos :: rest) G slk (fun k => f.thn (fun y => J.em y z) fun a => (appR xs a).bind fun ys => M ys k) := ⟨fun F0 H0 A D an k hk hA σ F H E => by
  have he := he.h F0 H0
  refine tS_le (pss_cons (ps_expr (pe_bm PySem.F.plainAttrs_list PySem.F.slot_list_append PySem.F.type_list_append mt_append (pe_var hN hv hd hcd) (pa_cons pE pa_nil hs) hbase hfew hline hs hplain) hsw) pS) ?_
  cases f with
  | ok a =>
    unfold appR R.iff at hA
    by_cases hl : xs.length < 16777216
    · have hA : A (M (xs ++ [a]) k) := by simpa [hl] using hA
      exact gk_app hi he hl (hG (xs ++ [a]) ▸ (hr (xs ++ [a])).h F0 H0 A D an k hk hA) σ F H E
    · simp [hl] at hA; exact (an.no hA).elim
  | er y =>
    obtain ⟨q, vs, hx, h1, h2, h3, h4, h5⟩ := E.lst_at hi
    exact ⟨_, hx, .inl ⟨rfl, _, SqL.of h3⟩, he σ F H E (an.air hz hA E) _⟩
  | no => exact (an.no hA).elim⟩
/-- an own list is handed back -/
theorem xb_retO {α : Type} {r : Rp α} {xs : List α} {iM : MoM (mL r xs)} {x : Str} {p1 : Pos} (i : Nat) (z : Z) (hi : G[i]? = some (.ow (mL r xs) iM)) (b : β) (hb : J.rs b = .ow (mL r xs) iM) (hz : Lw (G.set i .no) (J.slz z))
    (hN : C.X.N[i]? = some x := by rfl) (hv : Vis C.X.env.scope x := by first | exact Or.inl rfl | exact Or.inr (Or.inl rfl) | exact Or.inr (Or.inr rfl)) (hd : (x == ("__debug__" : Str)) = false := by decide) (hcd : (x == ("__classdict__" : Str)) = false := by decide) :
    XB C J (.Return (some (.Name x p1)) pos :: rest) G slk (fun _ => .ok (J.ret b z)) := ⟨fun F0 H0 A D an k hk hA σ F H E => by
  refine tS_le (pss_cons (ps_ret (pe_var hN hv hd hcd)) pS) ?_
  obtain ⟨q, vs, hx, _⟩ := E.lst_at hi
  refine ⟨_, hx, an.ret b z hA σ F H _ ?_⟩
  have hl := E.len
  have hil : i < G.length := (List.getElem?_eq_some_iff.mp hi).1
  have E2 : EnvOk F0 H0 (.ow (mL r xs) iM :: G.set i .no) (some (.ref q) :: σ) F H := by
    refine E.re (fun j => match j with | 0 => i | n + 1 => n) (by simp [hl]) (fun j t hj => ?_) (fun j l e => ?_)
    · cases j with
      | zero => simp at hj; subst hj; exact ⟨⟨_, rfl⟩, .inr ⟨hi, by simp [hx]⟩⟩
      | succ j =>
        have hjl : j < σ.length := by rw [hl]; have := (List.getElem?_eq_some_iff.mp hj).1; simpa using this
        refine ⟨⟨σ[j], (List.getElem?_cons_succ).trans (List.getElem?_eq_getElem hjl)⟩, ?_⟩
        rcases set_get (show (G.set i .no)[j]? = some t by simpa using hj) with ⟨_, _, e⟩ | ⟨_, h⟩
        · exact .inl e.symm
        · exact .inr ⟨h, by simp⟩
    · cases j with
      | zero =>
        cases l with
        | zero => exact .inl rfl
        | succ l =>
          have e : i = l := e
          subst e
          exact .inr fun _ _ => .inr (by simp [List.getElem?_set_self hil])
      | succ j =>
        cases l with
        | zero =>
          have e : j = i := e
          subst e
          exact .inr fun _ _ => .inl (by simp [List.getElem?_set_self hil])
        | succ l => exact .inl (congrArg (· + 1) e)
  exact E2.weak ⟨.inr hb.symm, hz⟩⟩
/-- from now on it stays as it is -/
theorem xb_fz {α : Type} {r : Rp α} [im : Mo r] {xs : List α} {iM : MoM (mL r xs)} {M : (S' → R ε ρ) → R ε ρ} {st : List Stmt} (i : Nat) (G' : List Slot) (hi : G[i]? = some (.ow (mL r xs) iM)) (hG : G.set i (sF (rLst r) xs) = G') (h : XB C J st G' slk M) : XB C J st G slk M := ⟨fun F0 H0 A D an k hk hA => by
  subst hG
  exact gk_freeze i hi (h.h F0 H0 A D an k hk hA)⟩
end
def spR {α β : Type} (T : XT) (P : Pt α) (f : α → R Er β) (rs : β → Slot) : Sp := fun vs H Q E => ∃ F a, Ex F H ∧ P.ra F H H vs a ∧ f a ≠ .no ∧
  (∀ b, f a = .ok b → ∀ v F' H', EnvOk F H [rs b] [some v] F' H' → Q v H') ∧ (∀ er, f a = .er er → ErK T F H E er)
theorem spR_len {α β : Type} {T : XT} {P : Pt α} {f : α → R Er β} {rs : β → Slot} {vs : List V} {H : Hp} {Q : VK} {E : XK} (h : spR T P f rs vs H Q E) : vs.length = P.count := by
  obtain ⟨F, a, _, h, _⟩ := h; exact P.length h
/-- the context of a def's body -/
def cnD (P : Program) (w : World) (K : PySem.W.Frag) (mg : Str → Option Value) (base : Heap) (N : List Str) (nd : N.Nodup) (qual : Str) (sc : Scope) (f : Addr) (cdv : Value) (A : Around) (outer : List Env) (s : Shared) (H : Hp) (E : XK) (T : XT) : Cn where
  X := cxOf (L2.CX P w) P w K mg base N qual sc f cdv A outer s H E
  T := T
  W := fun cls d _ H => E cls d H
  tk := takes_of rfl rfl rfl rfl
  nd := nd
abbrev jnD {β : Type} (n : Nat) (rs : β → Slot) : Jn β β Er Unit := ⟨rs, fun b _ => b, fun _ => List.replicate n .no, fun e _ => e⟩
theorem cnD_po {P : Program} {w : World} {K : PySem.W.Frag} {mg : Str → Option Value} {base : Heap} {N : List Str} {nd : N.Nodup} {qual : Str} {sc : Scope} {f : Addr} {cdv : Value} {A : Around} {outer : List Env} {s : Shared} {H : Hp} {E : XK} {T : XT} : PassesOwn (model (cnD P w K mg base N nd qual sc f cdv A outer s H E T).X.prog (cnD P w K mg base N nd qual sc f cdv A outer s H E T).X.w) (cnD P w K mg base N nd qual sc f cdv A outer s H E T).X.A (cnD P w K mg base N nd qual sc f cdv A outer s H E T).X.env (cnD P w K mg base N nd qual sc f cdv A outer s H E T).X.xe := passes_of rfl
theorem lw_nos : ∀ {G : List Slot} {n : Nat}, G.length = n → Lw G (List.replicate n .no)
  | [], 0, _ => trivial
  | s :: G, n + 1, h => ⟨.inl rfl, lw_nos (by simpa using h)⟩
section
variable {P : Program} {w : World} {K : PySem.W.Frag} {mg : Str → Option Value} {base : Heap}
theorem ok_R {α β S' : Type} {X : XT} {T : Pt α} {f : α → R Er β} {rs : β → Slot} {x qual : Str} {st : Stmt} {fa : Addr} {fd : FuncData} {N ps : List Str} {k : Nat} (c : Nat) (Fn : Fun K x qual st fa fd) (S : FnScope N ps (defScope st)) (hc : N.length = T.count + c) (hps : ps.length = T.count)
    (kend : S' → R Er β) (hend : ∀ s b, kend s = .ok b → ∀ F H F' H', Gr F H F' H' → EnvOk F H [rs b] [some .non] F' H') (hend2 : ∀ s e, kend s ≠ .er e)
    (hbody : ∀ (cdv : Value) (A : Around) (outer : List Env) (s : Shared) (H : Hp) (E : XK) (hr : Room k (A.deeper (envOfC qual (defScope st) s.heap.objs.size fa cdv))) (a : α),
      ∃ (slk : S' → List Slot) (M : (S' → R Er β) → R Er β), XB (cnD P w K mg base N S.nd qual (defScope st) fa cdv A outer s H E X) (jnD N.length rs) (defBody st) (T.slots a ++ List.replicate c .no) slk M ∧ M kend = f a) :
    FnOk P w K mg base (L2.CX P w) (k + 1) fa fd ps (spR X T f rs) := by
  refine Fn.okX S (fun vs H Q E h => by rw [hps]; exact spR_len h) (fun cdv A outer s H vs Q E hr h => ?_)
  obtain ⟨F, a, e, ha, hno, q1, q2⟩ := h
  obtain ⟨slk, M, hB, hM⟩ := hbody cdv A outer s H E hr a
  refine ⟨_, pS, hB.h F H (fun r => r = f a) _ ⟨fun h => hno h.symm, fun b z h σ F' H' v EE => q1 b h.symm v F' H' EE.head, fun er z h σ F' H' cls d EE r => q2 er h.symm cls d F' H' EE.gr r⟩ kend (fun s' hs σ F' H' EE => ?_) hM _ F H (entry e ha c hc)⟩
  cases hk : kend s' with
  | ok b => exact q1 b (by rw [← hs, hk]) _ F' H' (hend s' b hk F H F' H' EE.gr)
  | er y => exact absurd hk (hend2 s' y)
  | no => rw [hk] at hs; exact absurd hs.symm hno
end
end LJ
set_option Elab.async false
set_option linter.all false
set_option maxRecDepth 100000
set_option maxHeartbeats 4000000
set_option autoImplicit false
namespace LJ
open PySem L2 LK LKX PyProof.Rows PySem.Spec
instance {n : Nat} {i : Int} : Decidable (ixOk n i) := by unfold ixOk; infer_instance
section
variable {C : Cn} {G : List Slot} {m m1 m2 : Md} {a b c e : Expr} {es rest : List Expr} {pos p apos : Pos} {x : Str}
theorem ds_bind {α γ : Type} {rx : Rp α} {sb : γ → Slot} {f : R Er α} {g : α → R Er γ} {F0 H0 : Hp} {t u : TE} (h : Dr C F0 H0 t G m rx f) (hx : ∀ x, Dx C F0 H0 t G x → Dx C F0 H0 u G x) (k : ∀ x, Ed F0 H0 t G m rx x → Ds C F0 H0 u G sb (g x)) : Ds C F0 H0 u G sb (f.bind g) := by
  cases f with
  | ok a => exact k a h
  | er y => exact hx y h
  | no => trivial
theorem x1n {α γ : Type} {rx : Rp α} {sb : γ → Slot} {t : TE} {f : R Er α} {op : α → R Er γ} (ha : XE C a G m1 rx f) (p : PE C.X e t) (hx : ∀ F0 H0 x, Dx C F0 H0 (tE C.X a) G x → Dx C F0 H0 t G x)
    (ho : ∀ F0 H0 x, Ed F0 H0 (tE C.X a) G m1 rx x → Ds C F0 H0 t G sb (op x)) : XN C e G sb (f.bind op) := ⟨fun F0 H0 =>
  (ds_bind (ha.h F0 H0) (hx F0 H0) fun x h1 => ho F0 H0 x h1).le fun _ _ _ q => tE_le p q⟩
theorem x2n {α β γ : Type} {rx : Rp α} {ry : Rp β} {sb : γ → Slot} {r : R2} {f : R Er α} {g : R Er β} {op : α → β → R Er γ} (ha : XE C a G m1 rx f) (hb : XE C b G m2 ry g)
    (p : PE C.X e (tOp r (tE C.X a) (tE C.X b))) (ho : ∀ F0 H0 x y, Ed F0 H0 (tE C.X a) G m1 rx x → Ed F0 H0 (tE C.X b) G m2 ry y → Ds C F0 H0 (tOp r (tE C.X a) (tE C.X b)) G sb (op x y)) :
    XN C e G sb (f.bind fun x => g.bind fun y => op x y) := ⟨fun F0 H0 =>
  (ds_bind (ha.h F0 H0) (fun _ => dx_op1) fun x h1 => ds_bind (hb.h F0 H0) (fun _ => dx_op2 h1) fun y h2 => ho F0 H0 x y h1 h2).le fun _ _ _ q => tE_le p q⟩
theorem ds_iff {α : Type} {sb : α → Slot} {c : Prop} [Decidable c] {x : α} {F0 H0 : Hp} {t : TE} (h : c → Dv F0 H0 t G (sb x)) : Ds C F0 H0 t G sb (R.iff c (.ok x)) := by
  unfold R.iff
  by_cases hc : c
  · rw [if_pos hc]; exact h hc
  · rw [if_neg hc]; trivial
def catR (x y : List Nat) : R Er (List Nat) := R.iff (x.length + y.length ≤ 16777216) (.ok (x ++ y))
def ixTR (x : List Nat) (i : Int) : R Er (List Nat) := R.iff (ixOk x.length i) (.ok [ixD x i])
def ixR {α : Type} [Inhabited α] (x : List α) (i : Int) : R Er α := R.iff (ixOk x.length i) (.ok (ixD x i))
theorem xcat {f g : R Er (List Nat)} (ha : XE C a G m1 rTx f) (hb : XE C b G m2 rTx g) : XE C (.BinOp a .Add b pos) G .sh rTx (f.bind fun x => g.bind fun y => catR x y) := x2 ha hb (pe_op op_add_str pE pE) fun _ _ _ _ h1 h2 => dr_iff fun c => ed_cat h1 h2 c
theorem xixT {f : R Er (List Nat)} {g : R Er Int} (ha : XE C a G m1 rTx f) (hb : XE C b G m2 rInt g) (hp : PlainIx b := by exact fun _ _ => rfl) : XE C (.Subscript a b pos) G .sh rTx (f.bind fun x => g.bind fun y => ixTR x y) := x2 ha hb (pe_ix ix_str pE pE hp) fun _ _ _ _ h1 h2 => dr_iff fun c => ed_ixT h1 h2 c
theorem xixL {α : Type} {r : Rp α} [Mo r] [Inhabited α] {f : R Er (List α)} {g : R Er Int} (ha : XE C a G m (rLst r) f) (hb : XE C b G m2 rInt g) (hp : PlainIx b := by exact fun _ _ => rfl) : XE C (.Subscript a b pos) G m r (f.bind fun x => g.bind fun y => ixR x y) := x2 ha hb (pe_ix ix_list pE pE hp) fun _ _ _ _ h1 h2 => dr_iff fun c => ed_ixL h1 h2 c
theorem xixS {f : R Er (List Int)} {g : R Er Int} (ha : XE C a G m1 (rScr C.X.K) f) (hb : XE C b G m2 rInt g) (hp : PlainIx b := by exact fun _ _ => rfl) : XE C (.Subscript a b pos) G .sh rInt (f.bind fun x => g.bind fun y => ixR x y) := x2 ha hb (pe_ix ix_list pE pE hp) fun _ _ _ _ h1 h2 => dr_iff fun c => ed_ixS h1 h2 c
theorem xone {op : BoolOp} {f : R Er Bool} (ha : XE C a G m rBl f) : XE C (.BoolOp op [a] pos) G m rBl f := ⟨fun F0 H0 => (ha.h F0 H0).le fun _ _ _ q => tE_le (pe_one pE) q⟩
theorem xand {f g : R Er Bool} (ha : XE C a G m1 rBl f) (hb : XE C (.BoolOp .And (b :: rest) pos) G m2 rBl g) : XE C (.BoolOp .And (a :: b :: rest) pos) G .sh rBl (f.bind fun x => cond x g (.ok false)) := ⟨fun F0 H0 =>
  ((ha.h F0 H0).bind (t := tAndV (tE C.X a) (tE C.X (.BoolOp .And (b :: rest) pos))) (m1 := .sh) (r' := rBl) (fun x z σ F H E w Q => z σ F H E w _) fun x h1 => by
    have h2 := hb.h F0 H0
    cases x with
    | false => exact ed_andV (b := false) (m2 := .sh) h1 (fun z => nomatch z)
    | true =>
      show Dr C F0 H0 _ G .sh rBl g
      cases g with
      | ok y => exact (ed_andV h1 (fun _ => h2)).cast rfl
      | er e => exact fun σ F H E w Q => h1 σ F H E _ fun v F1 H1 g1 hv => ⟨true, hv, by rw [if_pos rfl]; exact h2 σ F1 H1 (E.gro g1) (fun F' H' cls d g z => w F' H' cls d (g1.trans g) z) Q⟩
      | no => trivial).le fun _ _ _ q => tE_le (pe_and pE pE) q⟩
theorem xcb1 {α γ : Type} {rx : Rp α} {rz : Rp γ} {r : List V → Hp → VK → Prop} {f : R Er α} {op : α → R Er γ} (ha : XE C a G m1 rx f) (q : PE C.X e (tCB r (tCons (tE C.X a) tNil)))
    (ho : ∀ F0 H0 x, Ed F0 H0 (tE C.X a) G m1 rx x → Dr C F0 H0 (tCB r (tCons (tE C.X a) tNil)) G m rz (op x)) : XE C e G m rz (f.bind op) := x1 ha q (fun _ _ _ z σ F H E w Q => z σ F H E w _) ho
theorem pB {id : String} {r : List V → Hp → VK → Prop} (hc : CallR C.X (.builtin id) r) (hm : C.X.mg x = none) (hv : bootBuiltins x = some (.builtin id)) (hg : Gl C.X x) (hn : x ≠ "__name__") (hdb : (x == ("__debug__" : Str)) = false)
    (he : starEach [a] C.X.env = (false, eval a C.X.env) :: starEach [] C.X.env) (hpl : (backTo pos (starEach [] C.X.env)).any (·.1) = false) : PE C.X (.Call (.Name x p) [a] [] pos) (tCB r (tCons (tE C.X a) tNil)) := pe_callB hc hg hm hv (pa_cons pE pa_nil he) hn hdb he hpl
theorem pTy {id : String} {r : List V → Hp → VK → Prop} (hc : CallR C.X (.type id) r) (hm : C.X.mg x = none) (hv : bootBuiltins x = some (.type id)) (hg : Gl C.X x) (hn : x ≠ "__name__") (hdb : (x == ("__debug__" : Str)) = false)
    (he : starEach [a] C.X.env = (false, eval a C.X.env) :: starEach [] C.X.env) (hpl : (backTo pos (starEach [] C.X.env)).any (·.1) = false) : PE C.X (.Call (.Name x p) [a] [] pos) (tCB r (tCons (tE C.X a) tNil)) := pe_callTy hc hg hm hv (pa_cons pE pa_nil he) hn hdb he hpl
section
variable (hg1 : Gl C.X "len" := by rfl) (he : starEach [a] C.X.env = (false, eval a C.X.env) :: starEach [] C.X.env := by exact star_cons rfl) (hpl : (backTo pos (starEach [] C.X.env)).any (·.1) = false := by rfl)
theorem xlenL {α : Type} {r : Rp α} {f : R Er (List α)} (ha : XE C a G m1 (rLst r) f) (hm : C.X.mg "len" = none) (hg : Gl C.X "len" := by rfl) (he : starEach [a] C.X.env = (false, eval a C.X.env) :: starEach [] C.X.env := by exact star_cons rfl) (hpl : (backTo pos (starEach [] C.X.env)).any (·.1) = false := by rfl) :
    XE C (.Call (.Name "len" p) [a] [] pos) G .sh rInt (f.bind fun x => .ok (x.length : Int)) := xcb1 ha (pB call_len_seq hm PySem.boot_len hg (by decide) (by decide) he hpl) fun _ _ _ h => ed_lenL h
theorem xlenT {f : R Er (List Nat)} (ha : XE C a G m1 rTx f) (hm : C.X.mg "len" = none) (hg : Gl C.X "len" := by rfl) (he : starEach [a] C.X.env = (false, eval a C.X.env) :: starEach [] C.X.env := by exact star_cons rfl) (hpl : (backTo pos (starEach [] C.X.env)).any (·.1) = false := by rfl) :
    XE C (.Call (.Name "len" p) [a] [] pos) G .sh rInt (f.bind fun x => .ok (x.length : Int)) := xcb1 ha (pB call_len_str hm PySem.boot_len hg (by decide) (by decide) he hpl) fun _ _ _ h => ed_lenT h
theorem xlenS {f : R Er (List Int)} (ha : XE C a G m1 (rScr C.X.K) f) (hm : C.X.mg "len" = none) (hg : Gl C.X "len" := by rfl) (he : starEach [a] C.X.env = (false, eval a C.X.env) :: starEach [] C.X.env := by exact star_cons rfl) (hpl : (backTo pos (starEach [] C.X.env)).any (·.1) = false := by rfl) :
    XE C (.Call (.Name "len" p) [a] [] pos) G .sh rInt (f.bind fun x => .ok (x.length : Int)) := xcb1 ha (pB call_len_seq hm PySem.boot_len hg (by decide) (by decide) he hpl) fun _ _ _ h => ed_lenS h
theorem xintI {f : R Er Int} (ha : XE C a G m1 rInt f) (hm : C.X.mg "int" = none) (hg : Gl C.X "int" := by rfl) (he : starEach [a] C.X.env = (false, eval a C.X.env) :: starEach [] C.X.env := by exact star_cons rfl) (hpl : (backTo pos (starEach [] C.X.env)).any (·.1) = false := by rfl) :
    XE C (.Call (.Name "int" p) [a] [] pos) G .sh rInt (f.bind fun x => .ok x) := xcb1 ha (pTy call_int1 hm (by decide +kernel) hg (by decide) (by decide) he hpl) fun _ _ _ h => ed_intI h
theorem xintB {f : R Er Bool} (ha : XE C a G m1 rBl f) (hm : C.X.mg "int" = none) (hg : Gl C.X "int" := by rfl) (he : starEach [a] C.X.env = (false, eval a C.X.env) :: starEach [] C.X.env := by exact star_cons rfl) (hpl : (backTo pos (starEach [] C.X.env)).any (·.1) = false := by rfl) :
    XE C (.Call (.Name "int" p) [a] [] pos) G .sh rInt (f.bind fun x => .ok (cond x 1 0)) := xcb1 ha (pTy call_int1 hm (by decide +kernel) hg (by decide) (by decide) he hpl) fun _ _ x h => by
  have := ed_intB (m := .sh) h
  cases x <;> exact this
theorem xlistL {α : Type} {r : Rp α} [Mo r] [Kp m1 r] {f : R Er (List α)} (ha : XE C a G m1 (rLst r) f) (hm : C.X.mg "list" = none) (hg : Gl C.X "list" := by rfl) (he : starEach [a] C.X.env = (false, eval a C.X.env) :: starEach [] C.X.env := by exact star_cons rfl) (hpl : (backTo pos (starEach [] C.X.env)).any (·.1) = false := by rfl) :
    XN C (.Call (.Name "list" p) [a] [] pos) G (fun xs => sL r xs) f := by
  have h : XN C (.Call (.Name "list" p) [a] [] pos) G (fun xs => sL r xs) (f.bind fun x => .ok x) := x1n ha (pTy call_list_of hm (by decide +kernel) hg (by decide) (by decide) he hpl) (fun _ _ _ z σ F H E w Q => z σ F H E w _) fun _ _ x h => dv_en (en_list h)
  cases f <;> exact h
theorem xtupL {α : Type} {r : Rp α} [Mo r] [Kp m1 r] {f : R Er (List α)} (ha : XE C a G m1 (rLst r) f) (hm : C.X.mg "tuple" = none) (hg : Gl C.X "tuple" := by rfl) (he : starEach [a] C.X.env = (false, eval a C.X.env) :: starEach [] C.X.env := by exact star_cons rfl) (hpl : (backTo pos (starEach [] C.X.env)).any (·.1) = false := by rfl) :
    XE C (.Call (.Name "tuple" p) [a] [] pos) G .sh (rTup r) f := by
  have h : XE C (.Call (.Name "tuple" p) [a] [] pos) G .sh (rTup r) (f.bind fun x => .ok x) := xcb1 ha (pTy call_tuple_of hm (by decide +kernel) hg (by decide) (by decide) he hpl) fun _ _ x h => ed_tupL h
  cases f <;> exact h
theorem xall {f : R Er (List Bool)} (ha : XE C a G m1 (rLst rBl) f) (hm : C.X.mg "all" = none) (hc : C.X.calm = true := by rfl) (hg : Gl C.X "all" := by rfl) (he : starEach [a] C.X.env = (false, eval a C.X.env) :: starEach [] C.X.env := by exact star_cons rfl) (hpl : (backTo pos (starEach [] C.X.env)).any (·.1) = false := by rfl) :
    XE C (.Call (.Name "all" p) [a] [] pos) G .sh rBl (f.bind fun x => .ok (x.all id)) := xcb1 ha (pB (cr_all hc) hm (by decide +kernel) hg (by decide) (by decide) he hpl) fun _ _ _ h => ed_all h
end
def catLR {α : Type} (x y : List α) : R Er (List α) := R.iff (x.length + y.length ≤ 16777216) (.ok (x ++ y))
theorem xcatL {α : Type} {r : Rp α} [Mo r] [Kp m1 r] [Kp m2 r] {f g : R Er (List α)} (ha : XE C a G m1 (rLst r) f) (hb : XE C b G m2 (rLst r) g) : XN C (.BinOp a .Add b pos) G (fun xs => sL r xs) (f.bind fun x => g.bind fun y => catLR x y) := x2n ha hb (pe_op op_cat pE pE) fun _ _ _ _ h1 h2 => ds_iff fun c => dv_en (en_catL h1 h2 c)
def XO (C : Cn) (o : Option Expr) (G : List Slot) (f : R Er (Option Int)) : Prop := ∃ t, PO C.X o t ∧ ∀ F0 H0, match f with
  | .ok i => Eo F0 H0 t G i
  | .er e => ∀ σ F H, EnvOk F0 H0 G σ F H → (∀ F' H' cls d, Gr F H F' H' → rEr C.T F' cls d e → C.W cls d σ H') → ∀ Q : Option Int → Hp → Prop, t σ H Q
  | .no => True
theorem xo_none : XO C none G (.ok none) := ⟨_, po_none, fun _ _ => eo_none⟩
theorem xo_some {f : R Er Int} (h : XE C a G m rInt f) : XO C (some a) G (f.bind fun i => .ok (some i)) := ⟨_, po_some pE, fun F0 H0 => by
  have h := h.h F0 H0
  cases f with
  | ok i => exact eo_some (te := tE C.X a) h
  | er e => exact fun σ F H E w Q => h σ F H E w _
  | no => trivial⟩
theorem xslT {o1 o2 : Option Expr} {f : R Er (List Nat)} {g h : R Er (Option Int)} {sp : Pos} (ha : XE C a G m1 rTx f) (h1 : XO C o1 G g) (h2 : XO C o2 G h) : XE C (.Subscript a (.Slice o1 o2 none sp) pos) G .sh rTx (f.bind fun x => g.bind fun i => h.bind fun j => .ok (cutL x i j)) := ⟨fun F0 H0 => by
  obtain ⟨tl, pl, hl⟩ := h1
  obtain ⟨th, ph, hh⟩ := h2
  have ha := ha.h F0 H0; have hl := hl F0 H0; have hh := hh F0 H0
  refine Dr.le (t := tSl rSlS (tE C.X a) tl th) ?_ fun _ _ _ q => tE_le (pe_slice sl_str pE pl ph) q
  cases f with
  | no => trivial
  | er e => exact fun σ F H E w Q => ha σ F H E w _
  | ok x =>
    cases g with
    | no => trivial
    | er e => exact fun σ F H E w Q => ha σ F H E _ fun v F1 H1 g1 _ => hl σ F1 H1 (E.gro g1) (fun F' H' cls d g z => w F' H' cls d (g1.trans g) z) _
    | ok i =>
      cases h with
      | no => trivial
      | er e => exact fun σ F H E w Q => ha σ F H E _ fun v F1 H1 g1 _ => hl σ F1 H1 (E.gro g1) _ fun F2 H2 g2 => hh σ F2 H2 ((E.gro g1).gro g2) (fun F' H' cls d g z => w F' H' cls d ((g1.trans g2).trans g) z) _
      | ok j => exact ed_slT ha hl hh⟩
theorem xslL {α : Type} {r : Rp α} [Mo r] [Kp m1 r] {o1 o2 : Option Expr} {f : R Er (List α)} {g h : R Er (Option Int)} {sp : Pos} (ha : XE C a G m1 (rLst r) f) (h1 : XO C o1 G g) (h2 : XO C o2 G h) : XN C (.Subscript a (.Slice o1 o2 none sp) pos) G (fun xs => sL r xs) (f.bind fun x => g.bind fun i => h.bind fun j => .ok (cutL x i j)) := ⟨fun F0 H0 => by
  obtain ⟨tl, pl, hl⟩ := h1
  obtain ⟨th, ph, hh⟩ := h2
  have ha := ha.h F0 H0; have hl := hl F0 H0; have hh := hh F0 H0
  refine Ds.le (t := tSl (rSlL C.X.K) (tE C.X a) tl th) ?_ fun _ _ _ q => tE_le (pe_slice sl_list pE pl ph) q
  cases f with
  | no => trivial
  | er e => exact fun σ F H E w Q => ha σ F H E w _
  | ok x =>
    cases g with
    | no => trivial
    | er e => exact fun σ F H E w Q => ha σ F H E _ fun v F1 H1 g1 _ => hl σ F1 H1 (E.gro g1) (fun F' H' cls d g z => w F' H' cls d (g1.trans g) z) _
    | ok i =>
      cases h with
      | no => trivial
      | er e => exact fun σ F H E w Q => ha σ F H E _ fun v F1 H1 g1 _ => hl σ F1 H1 (E.gro g1) _ fun F2 H2 g2 => hh σ F2 H2 ((E.gro g1).gro g2) (fun F' H' cls d g z => w F' H' cls d ((g1.trans g2).trans g) z) _
      | ok j => exact dv_en (en_slL ha hl hh)⟩
/-- ''.join(list of texts) -/
def joinR (x : List Nat) (xs : List (List Nat)) : R Er (List Nat) := R.iff (x = [] ∧ xs.flatten.length ≤ 16777216) (.ok xs.flatten)
theorem xjoin {f : R Er (List Nat)} {g : R Er (List (List Nat))} (ha : XE C a G m1 rTx f) (hb : XE C b G m2 (rLst rTx) g) (hs : starEach [b] C.X.env = [(false, eval b C.X.env)] := by rfl) (hbase : attributeBase a "join" C.X.env (eval a C.X.env) = eval a C.X.env := by rfl) (hline : (apos.endLine == pos.line) = true := by rfl) :
    XE C (.Call (.Attribute a "join" apos) [b] [] pos) G .sh rTx (f.bind fun x => g.bind fun xs => joinR x xs) := ⟨fun F0 H0 => by
  have ha := ha.h F0 H0; have hb := hb.h F0 H0
  refine Dr.le (t := tM1 (rJoin C.X.K) (tE C.X a) (tE C.X b)) ?_ fun _ _ _ q => tE_le (kJoin _ pE pE rfl hs hbase hline) q
  cases f with
  | no => trivial
  | er e => exact fun σ F H E w Q => ha σ F H E w _
  | ok x =>
    cases g with
    | no => trivial
    | er e => exact fun σ F H E w Q => ha σ F H E _ fun v F1 H1 g1 hv => ⟨⟨_, hv.1⟩, hb σ F1 H1 (E.gro g1) (fun F' H' cls d g z => w F' H' cls d (g1.trans g) z) _⟩
    | ok xs =>
      refine dr_iff fun c => ?_
      obtain ⟨rfl, c⟩ := c
      exact ed_join ha hb c⟩
end
end LJ
set_option Elab.async false
set_option linter.all false
set_option maxRecDepth 100000
set_option maxHeartbeats 4000000
set_option autoImplicit false
namespace LJ
open PySem L2 LK LKX PyProof.Rows PySem.Spec
section
variable {C : Cn} {G : List Slot} {m m1 m2 : Md} {a b c e : Expr} {es rest : List Expr} {pos p apos : Pos} {x : Str} {tn : Nat}
def Ar (C : Cn) (F0 H0 : Hp) (t : TA) (G : List Slot) {α : Type} (ok : α → Prop) : R Er α → Prop
  | .ok a => ok a
  | .er e => ∀ σ F H, EnvOk F0 H0 G σ F H → (∀ F' H' cls d, Gr F H F' H' → rEr C.T F' cls d e → C.W cls d σ H') → ∀ Q : List V → Hp → Prop, t σ H Q
  | .no => True
structure XL (C : Cn) (es : List Expr) (G : List Slot) {α : Type} (r : Rp α) (f : R Er (List α)) : Prop where
  h : ∀ F0 H0, Ar C F0 H0 (tA C.X es) G (fun xs => El F0 H0 (tA C.X es) G r xs) f
structure XA (C : Cn) (es : List Expr) (G : List Slot) {α : Type} (P : Pt α) (f : R Er α) : Prop where
  h : ∀ F0 H0, Ar C F0 H0 (tA C.X es) G (fun a => Ea F0 H0 (tA C.X es) G P.ra a) f
theorem xl_nil {α : Type} {r : Rp α} : XL C [] G r (.ok []) := ⟨fun F0 H0 σ F H E Q q => tA_le pa_nil (el_nil (F0 := F0) (H0 := H0) σ F H E Q q)⟩
theorem xl_cons {α : Type} {r : Rp α} [Mo r] {f : R Er α} {g : R Er (List α)} (ha : XE C e G .sh r f) (hr : XL C es G r g) (hs : starEach (e :: es) C.X.env = (false, eval e C.X.env) :: starEach es C.X.env := by exact star_cons rfl) : XL C (e :: es) G r (f.bind fun x => g.bind fun xs => .ok (x :: xs)) := ⟨fun F0 H0 => by
  have ha := ha.h F0 H0; have hr := hr.h F0 H0
  have le : ∀ σ H Q, tCons (tE C.X e) (tA C.X es) σ H Q → tA C.X (e :: es) σ H Q := fun _ _ _ q => tA_le (pa_cons pE pA hs) q
  cases f with
  | no => trivial
  | er y => exact fun σ F H E w Q => le _ _ _ (ha σ F H E w _)
  | ok x =>
    cases g with
    | no => trivial
    | er y => exact fun σ F H E w Q => le _ _ _ (ha σ F H E _ fun v F1 H1 g1 _ => hr σ F1 H1 (E.gro g1) (fun F' H' cls d g z => w F' H' cls d (g1.trans g) z) _)
    | ok xs => exact fun σ F H E Q q => le _ _ _ (el_cons ha hr σ F H E Q q)⟩
theorem xa_nil : XA C [] G .nil (.ok ()) := ⟨fun F0 H0 σ F H E Q q => tA_le pa_nil (ea_nil (F0 := F0) (H0 := H0) σ F H E Q q)⟩
theorem xa_cons {α β : Type} {r : Rp α} [im : Mo r] {P : Pt β} {f : R Er α} {g : R Er β} (ha : XE C e G m r f) (hr : XA C es G P g) (hs : starEach (e :: es) C.X.env = (false, eval e C.X.env) :: starEach es C.X.env := by exact star_cons rfl) : XA C (e :: es) G (.cons m r im P) (f.bind fun x => g.bind fun xs => .ok (x, xs)) := ⟨fun F0 H0 => by
  have ha := ha.h F0 H0; have hr := hr.h F0 H0
  have le : ∀ σ H Q, tCons (tE C.X e) (tA C.X es) σ H Q → tA C.X (e :: es) σ H Q := fun _ _ _ q => tA_le (pa_cons pE pA hs) q
  cases f with
  | no => trivial
  | er y => exact fun σ F H E w Q => le _ _ _ (ha σ F H E w _)
  | ok x =>
    cases g with
    | no => trivial
    | er y => exact fun σ F H E w Q => le _ _ _ (ha σ F H E _ fun v F1 H1 g1 _ => hr σ F1 H1 (E.gro g1) (fun F' H' cls d g z => w F' H' cls d (g1.trans g) z) _)
    | ok xs => exact fun σ F H E Q q => le _ _ _ (ea_cons ha hr σ F H E Q q)⟩
/-- a list display -/
def lenR {α : Type} (xs : List α) : R Er (List α) := R.iff (xs.length ≤ 16777216) (.ok xs)
theorem xn_lst {α : Type} {r : Rp α} [Mo r] {f : R Er (List α)} (h : XL C es G r f) : XN C (.List es pos) G (fun xs => sL r xs) (f.bind lenR) := ⟨fun F0 H0 => by
  have h := h.h F0 H0
  refine Ds.le (t := tLst (tA C.X es)) ?_ fun _ _ _ q => tE_le (pe_lst pA) q
  cases f with
  | no => trivial
  | er y => exact fun σ F H E w Q => h σ F H E w _
  | ok xs => exact ds_iff fun c => dv_en (en_lst h c)⟩
theorem xtup {α : Type} {r : Rp α} [Mo r] {f : R Er (List α)} (h : XL C es G r f) : XE C (.Tuple es tn pos) G .sh (rTup r) (f.bind lenR) := ⟨fun F0 H0 => by
  have h := h.h F0 H0
  refine Dr.le (t := tTup (tA C.X es)) ?_ fun _ _ _ q => tE_le (pe_tup pA) q
  cases f with
  | no => trivial
  | er y => exact fun σ F H E w Q => h σ F H E w _
  | ok xs => exact dr_iff fun c => ed_tup h c⟩
theorem xpr {α β : Type} {r : Rp α} {s : Rp β} [Mo r] [Mo s] {f : R Er α} {g : R Er β} (ha : XE C a G .sh r f) (hb : XE C b G .sh s g) (h1 : starEach [a, b] C.X.env = (false, eval a C.X.env) :: starEach [b] C.X.env := by exact star_cons rfl) (h2 : starEach [b] C.X.env = (false, eval b C.X.env) :: starEach [] C.X.env := by exact star_cons rfl) :
    XE C (.Tuple [a, b] tn pos) G .sh (rPr r s) (f.bind fun x => g.bind fun y => .ok (x, y)) := ⟨fun F0 H0 => by
  have ha := ha.h F0 H0; have hb := hb.h F0 H0
  refine Dr.le (t := tTup (tCons (tE C.X a) (tCons (tE C.X b) tNil))) ?_ fun _ _ _ q => tE_le (pe_tup (pa_cons pE (pa_cons pE pa_nil h2) h1)) q
  cases f with
  | no => trivial
  | er y => exact fun σ F H E w Q => ha σ F H E w _
  | ok x =>
    cases g with
    | no => trivial
    | er y => exact fun σ F H E w Q => ha σ F H E _ fun v F1 H1 g1 _ => hb σ F1 H1 (E.gro g1) (fun F' H' cls d g z => w F' H' cls d (g1.trans g) z) _
    | ok y => exact ed_pr ha hb⟩
/-- a datum as one of any kind, and back -/
theorem xdt {α : Type} {r : Rp α} [t : Tod r] {f : R Er α} (h : XE C e G m r f) : XE C e G m rDt (f.bind fun x => .ok (t.d x)) := ⟨fun F0 H0 => by
  have h := h.h F0 H0
  cases f with
  | no => trivial
  | er y => exact h
  | ok x => exact ed_dt h⟩
def dIR : Dt → R Er Int
  | .int i => .ok i
  | _ => .no
def dTR : Dt → R Er (List Nat)
  | .tx i => .ok i
  | _ => .no
theorem xdI {f : R Er Dt} (h : XE C e G m rDt f) : XE C e G m rInt (f.bind dIR) := ⟨fun F0 H0 => by
  have h := h.h F0 H0
  cases f with
  | no => trivial
  | er y => exact h
  | ok x =>
    cases x with
    | int i => exact Ed.dI h
    | _ => trivial⟩
theorem xdT {f : R Er Dt} (h : XE C e G m rDt f) : XE C e G m rTx (f.bind dTR) := ⟨fun F0 H0 => by
  have h := h.h F0 H0
  cases f with
  | no => trivial
  | er y => exact h
  | ok x =>
    cases x with
    | tx i => exact Ed.dT h
    | _ => trivial⟩
theorem envRebase {F H F1 H1 F2 H2 : Hp} {s : Slot} {x : Option V} (g : Gr F H F1 H1) (E : EnvOk F1 H1 [s] [x] F2 H2) (hn : Slot.nb s) : EnvOk F H [s] [x] F2 H2 := by
  obtain ⟨fp, E⟩ := E
  refine ⟨fp, g.trans E.gr, E.len, fun i t h => ?_, E.dj⟩
  obtain ⟨y, hy, ok⟩ := E.at_ i t h
  refine ⟨y, hy, ?_⟩
  cases i with
  | succ i => simp at h
  | zero =>
    have h : s = t := Option.some.inj h
    subst h
    cases s with
    | no => trivial
    | fz r im a => exact ok
    | bw r im a => exact hn.elim
    | ow M im =>
      obtain ⟨q, e, h1, h2⟩ := ok
      exact ⟨q, e, fun a ha => ⟨(h1 a ha).1, g.hh.back (h1 a ha).2⟩, h2⟩
theorem xcall {α β : Type} {P : Pt α} {fn : α → R Er β} {rs : β → Slot} {g : R Er α} {k n : Nat} {f : Addr} {fd : FuncData} {ps : List Str} (Cl : Cal C.X.K C.X.mg x f fd ps) (Fo : FnOk C.X.prog C.X.w C.X.K C.X.mg C.X.base (L2.CX C.X.prog C.X.w) k f fd ps (spR C.T P fn rs)) (hr : Room n C.X.A) (ha : XA C (e :: es) G P g)
    (hn : ∀ b, Slot.nb (rs b) := by intro; trivial) (hk : k ≤ n := by decide) (hg : Gl C.X x := by rfl) (hdb : (x == ("__debug__" : Str)) = false := by decide)
    (he : starEach (e :: es) C.X.env = (false, eval e C.X.env) :: starEach es C.X.env := by exact star_cons rfl) (hpl : (backTo pos (starEach es C.X.env)).any (·.1) = false := by rfl) : XN C (.Call (.Name x p) (e :: es) [] pos) G rs (g.bind fn) := ⟨fun F0 H0 => by
  have ha := ha.h F0 H0
  refine Ds.le (t := tCallS (spR C.T P fn rs) (WE C.W) (tA C.X (e :: es))) ?_ fun _ _ _ q => tE_le (pe_callS Fo (hr.mono hk) hg Cl.mg Cl.kp Cl.bi (fun σ => passAt C.tk σ) pA hdb he hpl) q
  cases g with
  | no => trivial
  | er y => exact fun σ F H E w Q => ha σ F H E w _
  | ok a =>
    show Ds C F0 H0 _ G rs (fn a)
    cases hf : fn a with
    | no => trivial
    | er y => exact fun σ F H E w Q => ha σ F H E _ fun vs F1 H1 g1 h1 => ⟨F1, a, g1.fh, Pt.now P (E.gr.trans g1) h1, by rw [hf]; exact fun z => (nomatch z), fun c hc => (by rw [hf] at hc; cases hc), fun er' he cls d F2 H2 g2 r => by
        rw [hf] at he; cases he
        exact w F2 H2 cls d (g1.trans g2) r⟩
    | ok b => exact fun σ F H E Q q => ha σ F H E _ fun vs F1 H1 g1 h1 => ⟨F1, a, g1.fh, Pt.now P (E.gr.trans g1) h1, by rw [hf]; exact fun z => (nomatch z), fun c hc v F2 H2 E2 => by
        rw [hf] at hc; cases hc
        exact q v F2 H2 (g1.trans E2.gr) (envRebase g1 E2 (hn b)), fun er' he => (by rw [hf] at he; cases he)⟩⟩
end
/-- the context of a comprehension's block -/
abbrev cnB (C : Cn) (s : Shared) (H : Hp) (scope : Scope) (Cc : Addr) (cl : List (Str × Addr)) (fp : List Addr) : Cn where
  X := C.X.blk s H scope (compEnvC scope cl Cc C.X.env) fp
  T := C.T
  W := fun _ _ _ _ => False
  tk := takes0
  nd := C.nd
section
variable {C : Cn} {G : List Slot} {m m1 m2 : Md} {a b c elt tg it e : Expr} {ifs : List Expr} {scope : Scope} {pos p apos : Pos} {x : Str}
/-- the canonical readings of a block's parts -/
def bE (X : Cx) (scope : Scope) (e : Expr) : TE := fun σ H Q => ∀ (s : Shared) (H0 : Hp) (Cc : Addr) (cl : List (Str × Addr)) (fp : List Addr), tE (X.blk s H0 scope (compEnvC scope cl Cc X.env) fp) e σ H Q
def bG (X : Cx) (scope : Scope) (tg : Expr) : TG := fun v σ H Q => ∀ (s : Shared) (H0 : Hp) (Cc : Addr) (cl : List (Str × Addr)) (fp : List Addr), tG (X.blk s H0 scope (compEnvC scope cl Cc X.env) fp) tg v σ H Q
def bI (X : Cx) (scope : Scope) (tg e : Expr) : TI := fun σ H Q => ∀ (s : Shared) (H0 : Hp) (Cc : Addr) (cl : List (Str × Addr)) (fp : List Addr), tI (X.blk s H0 scope (compEnvC scope cl Cc X.env) fp) tg e σ H Q
theorem dr_noer {α : Type} {r : Rp α} {F0 H0 : Hp} {G : List Slot} {f : R Er α} {a : α} {X : Cx} {T : XT} {tk nd} (h : Dr ⟨X, T, fun _ _ _ _ => False, tk, nd⟩ F0 H0 (tE X e) G m r f) (hf : (f.noer : R Er α) = .ok a) : Ed F0 H0 (tE X e) G m r a := by
  cases f with
  | ok b => cases hf; exact h
  | er y => cases hf
  | no => cases hf
theorem map_ok {α β ε δ : Type} [Inhabited β] {p : α → R ε Bool} {f : α → R ε β} : ∀ {xs : List α} {ys : List β}, (R.mapR p f xs : R δ (List β)) = .ok ys → ∃ (p' : α → Bool) (f' : α → β), (∀ x ∈ xs, (p x).noer = (.ok (p' x) : R δ Bool) ∧ (p' x = true → (f x).noer = (.ok (f' x) : R δ β))) ∧ ys = (xs.filter p').map f' := by
  intro xs
  have key : ∀ {xs : List α} {ys : List β}, (R.mapR p f xs : R δ (List β)) = .ok ys → (∀ x ∈ xs, (p x).noer = (.ok (match p x with | .ok b => b | _ => false) : R δ Bool) ∧ ((match p x with | .ok b => b | _ => false) = true → (f x).noer = (.ok (match f x with | .ok y => y | _ => default) : R δ β))) ∧ ys = (xs.filter fun x => match p x with | .ok b => b | _ => false).map fun x => match f x with | .ok y => y | _ => default := by
    intro xs
    induction xs with
    | nil => intro ys h; cases h; exact ⟨fun _ z => (nomatch z), rfl⟩
    | cons x xs ih =>
      intro ys h
      unfold R.mapR at h
      cases hp : p x with
      | er y => rw [hp] at h; cases h
      | no => rw [hp] at h; cases h
      | ok b =>
        rw [hp] at h
        cases b with
        | false =>
          have h : (R.mapR p f xs : R δ (List β)) = .ok ys := h
          obtain ⟨h1, h2⟩ := ih h
          refine ⟨fun y hy => ?_, by rw [h2]; simp [hp]⟩
          rcases List.mem_cons.mp hy with e | hy
          · subst e; rw [hp]; exact ⟨rfl, fun z => nomatch z⟩
          · exact h1 y hy
        | true =>
          cases hf : f x with
          | er y => simp only [R.noer, hf, R.ok_bind, cond_true, R.no_bind] at h; cases h
          | no => simp only [R.noer, hf, R.ok_bind, cond_true, R.no_bind] at h; cases h
          | ok y =>
            simp only [R.noer, hf, R.ok_bind, cond_true] at h
            cases hm : (R.mapR p f xs : R δ (List β)) with
            | er z => rw [hm] at h; cases h
            | no => rw [hm] at h; cases h
            | ok zs =>
              rw [hm] at h
              cases h
              obtain ⟨h1, h2⟩ := ih hm
              refine ⟨fun z hz => ?_, by rw [h2]; simp [hp, hf]⟩
              rcases List.mem_cons.mp hz with e | hz
              · subst e; rw [hp, hf]; exact ⟨rfl, fun _ => rfl⟩
              · exact h1 z hz
  intro ys h
  exact ⟨_, _, key h⟩
/-- a comprehension as a value, and where it is stored -/
structure LcP (X : Cx) (e : Expr) (t : TE) : Prop where
  val : PE X e t
  set : ∀ {i : Nat} {y : Str} {py spos : Pos}, X.N[i]? = some y → X.env.scope.names.lookup y = some .local → swapsWith e (some (.Name y py)) spos.line X.env = pure true → PS X (.Assign [.Name y py] e spos) (tAsg t (gName i))
def XLc (C : Cn) (e : Expr) (G : List Slot) {α : Type} (sb : α → Slot) (f : R Er α) : Prop := ∃ t, LcP C.X e t ∧ ∀ F0 H0, Ds C F0 H0 t G sb f
theorem xnlc {α : Type} {sb : α → Slot} {f : R Er α} (h : XLc C e G sb f) : XN C e G sb f := ⟨fun F0 H0 => by
  obtain ⟨t, p, h⟩ := h
  exact (h F0 H0).le fun _ _ _ q => tE_le p.val q⟩
def tTs (X : Cx) (ifs : List Expr) : TT := fun σ H Q => ∀ (pins : List (Addr × Obj)) (s : Shared), Inv X pins σ H s →
    wpAny (model X.prog X.w) X.A (forIn ifs true fun c r => if r = true then do let ok ← isTrue c X.env (eval c X.env); pure (ForInStep.yield ok) else pure (ForInStep.yield r)) (TP X pins σ Q) X.xe s
theorem tTs_le {X : Cx} {u : TT} (h : PTs X ifs u) {σ : L2.St} {H : Hp} {Q : Bool → Hp → Prop} (q : u σ H Q) : tTs X ifs σ H Q := fun pins s I => h.run pins s σ H Q I q
structure XQs (C : Cn) (ifs : List Expr) (G : List Slot) (f : R Er Bool) : Prop where
  h : ∀ F0 H0, Tr C F0 H0 (tTs C.X ifs) G f
theorem xqs0 : XQs C [] G (.ok true) := ⟨fun F0 H0 σ F H E Q q => tTs_le pts_nil (q F H (Gr.refl E.gr.fh))⟩
theorem xqs1 {f : R Er Bool} (h : XQ C c G f) : XQs C [c] G f := ⟨fun F0 H0 => (h.h F0 H0).le fun _ _ _ q => tTs_le (pts_one pT) q⟩
def bTs (X : Cx) (scope : Scope) (ifs : List Expr) : TT := fun σ H Q => ∀ (s : Shared) (H0 : Hp) (Cc : Addr) (cl : List (Str × Addr)) (fp : List Addr), tTs (X.blk s H0 scope (compEnvC scope cl Cc X.env) fp) ifs σ H Q
theorem tr_noers {F0 H0 : Hp} {G : List Slot} {f : R Er Bool} {a : Bool} {t : TT} {C : Cn} (hW : C.W = fun _ _ _ _ => False) (h : Tr C F0 H0 t G f) (hf : (f.noer : R Er Bool) = .ok a) : Et F0 H0 t G a := by
  cases f with
  | ok b => cases hf; exact h
  | er y => cases hf
  | no => cases hf
theorem mapR_ner {α β ε δ : Type} {p : α → R ε Bool} {f : α → R ε β} {y : δ} : ∀ xs : List α, (R.mapR p f xs : R δ (List β)) ≠ .er y := by
  intro xs
  induction xs with
  | nil => intro h; cases h
  | cons x xs ih =>
    intro h
    unfold R.mapR at h
    cases hp : p x with
    | er y => rw [hp] at h; cases h
    | no => rw [hp] at h; cases h
    | ok b =>
      rw [hp] at h
      cases b with
      | false => exact ih h
      | true =>
        cases hf : f x with
        | er y => simp only [R.noer, hf, R.ok_bind, cond_true, R.no_bind] at h; cases h
        | no => simp only [R.noer, hf, R.ok_bind, cond_true, R.no_bind] at h; cases h
        | ok y =>
          simp only [R.noer, hf, R.ok_bind, cond_true] at h
          cases hm : (R.mapR p f xs : R δ (List β)) with
          | er z => rw [hm] at h; cases h; exact ih hm
          | no => rw [hm] at h; cases h
          | ok zs => rw [hm] at h; cases h
/-- [elt for tg in it if ..] -/
theorem xlc {α β : Type} [Inhabited β] {r : Rp α} {r' : Rp β} [Mo r'] {fx : R Er (List α)} {up : α → List Slot → List Slot} {tl : List Nat} {pf : α → R Er Bool} {ff : α → R Er β} (own : List (Str × Nat)) (G' : α → List Slot)
    (hi : XI C tg it G m r fx) (hg : ∀ s H Cc cl fp, XG (cnB C s H scope Cc cl fp) tg m r up tl) (hG : ∀ x, up x (wipeG G (own.map (·.2))) = G' x)
    (ht : ∀ s H Cc cl fp x, XQs (cnB C s H scope Cc cl fp) ifs (G' x) (pf x)) (he : ∀ s H Cc cl fp x, XE (cnB C s H scope Cc cl fp) elt (G' x) .sh r' (ff x)) (hc : C.X.calm = true := by rfl) (hv : tl.all (fun j => decide (j ∈ own.map (·.2))) = true := by decide) (ok : blkC C.X.N C.X.env.scope scope own = true := by decide +kernel) (hs : ∀ x, foldedSetIterable it C.X.env x = pure x := by intro _; rfl) :
    XLc C (.ListComp elt [⟨tg, it, ifs, 0⟩] scope pos) G (fun xs => sL r' xs) (fx.bind fun xs => R.mapR pf ff xs) := by
  have a1 : ∀ (s : Shared) (H : Hp) (Cc : Addr) (cl : List (Str × Addr)) (fp : List Addr), PG (C.X.blk s H scope (compEnvC scope cl Cc C.X.env) fp) tg (bG C.X scope tg) := fun s H Cc cl fp => ⟨fun pins s' σ H' v u Q I r h => h s H Cc cl fp pins s' u I r⟩
  have a2 : ∀ (s : Shared) (H : Hp) (Cc : Addr) (cl : List (Str × Addr)) (fp : List Addr), PTs (C.X.blk s H scope (compEnvC scope cl Cc C.X.env) fp) ifs (bTs C.X scope ifs) := fun s H Cc cl fp => ⟨fun pins s' σ H' Q I h => h s H Cc cl fp pins s' I⟩
  have a3 : ∀ (s : Shared) (H : Hp) (Cc : Addr) (cl : List (Str × Addr)) (fp : List Addr), PE (C.X.blk s H scope (compEnvC scope cl Cc C.X.env) fp) elt (bE C.X scope elt) := fun s H Cc cl fp => ⟨fun pins s' σ H' Q I h => h s H Cc cl fp pins s' I⟩
  refine ⟨tLc (tI C.X tg it) (bG C.X scope tg) (bTs C.X scope ifs) (bE C.X scope elt) (own.map (·.2)), ⟨pe_lc hc C.nd pI (blkOk_by ok) a1 a2 a3 hs, fun hy hyl hsw => ps_setLc hc C.nd hy hyl hsw pI (blkOk_by ok) a1 a2 a3 hs⟩, fun F0 H0 => ?_⟩
  have hi := hi.h F0 H0
  cases fx with
  | no => trivial
  | er y => exact fun σ F H E w Q => hi σ F H E w _
  | ok xs =>
    show Ds C F0 H0 _ G _ (R.mapR pf ff xs)
    cases hm : (R.mapR pf ff xs : R Er (List β)) with
    | no => trivial
    | er y => exact absurd hm (mapR_ner xs)
    | ok ys =>
      obtain ⟨p', f', h1, rfl⟩ := map_ok hm
      refine dv_en (en_lc p' f' hi (m := m) (r := r) (up := up) (tg := tl) (fun F0 G σ F H v x E hv Q q s H1 Cc cl fp => ((hg s H1 Cc cl fp).h H0).eg F0 G σ F H v x E hv Q q) (fun j hj => of_decide_eq_true (List.all_eq_true.mp hv j hj)) (fun F1 b x hx => ?_) (fun F1 b x hx hp => ?_))
      · rw [hG]
        exact fun σ F H E Q q s H1 Cc cl fp => tr_noers rfl ((ht s H1 Cc cl fp x).h F1 H0) (h1 x hx).1 σ F H E Q q
      · rw [hG]
        exact fun σ F H E Q q s H1 Cc cl fp => dr_noer ((he s H1 Cc cl fp x).h F1 H0) ((h1 x hx).2 hp) σ F H E Q q
end
section
variable {C : Cn} {β ρ ε Z S' : Type} {J : Jn β ρ ε Z} {G : List Slot} {slk : S' → List Slot} {rest : List Stmt} {elt : Expr} {gs : List Comprehension} {scope : Scope} {lpos pos : Pos}
theorem xb_setLc {α : Type} {sb : α → Slot} {f : R Er α} {M : α → (S' → R ε ρ) → R ε ρ} {x : Str} {pos' : Pos} (i : Nat) (G' : α → List Slot) (z : Z) (hz : Lw G (J.slz z)) (he : XLc C (.ListComp elt gs scope lpos) G sb f) (hG : ∀ a, G.set i (sb a) = G' a) (hr : ∀ a, XB C J rest (G' a) slk (M a)) (hn : ∀ a, Slot.nb (sb a) := by intro; trivial)
    (hi : C.X.N[i]? = some x := by rfl) (hx : C.X.env.scope.names.lookup x = some .local := by rfl) (hk : C.X.env.scope.kind = .function := by rfl) (hl : (pos'.line == lpos.line) = true := by rfl) (ha : (scope.names.any fun (n, k) => n == x && (k == .local || k == .cell)) = false := by decide +kernel) :
    XB C J (.Assign [.Name x pos'] (.ListComp elt gs scope lpos) pos :: rest) G slk (fun k => f.thn (fun y => J.em y z) fun a => M a k) := ⟨fun F0 H0 A D an k hk' hA σ F H E => by
  obtain ⟨t, p, he⟩ := he
  have he := he F0 H0
  refine tS_le (pss_cons (p.set hi hx (sw_true hk hx hl ha)) pS) ?_
  cases f with
  | ok a => exact he σ F H E _ fun v F' H' g E' => (hr a).h F0 H0 A D an k hk' hA _ F' H' (hG a ▸ (envJoin E g E' (hn a)).move)
  | er y => exact he σ F H E (an.air hz hA E) _
  | no => exact (an.no hA).elim⟩
end
end LJ
set_option Elab.async false
set_option linter.all false
set_option maxRecDepth 100000
set_option maxHeartbeats 4000000
set_option autoImplicit false
namespace LJ
open PySem L2 LK LKX PyProof.Rows PySem.Spec
/-- what is known of an own error's class of one field -/
structure XK1 (P : Program) (w : World) (K : PySem.W.Frag) (mg : Str → Option Value) (xt : XT) (x : Str) (k : Nat) (f : Str) : Prop extends Xk P w K mg xt x k f where
  xf : XfC K (xt.cls k)
  hno : PySem.W.findIn K (.ref (xt.cls k)) f = some none
  ex : ExcC K (xt.cls k)
section
variable {C : Cn} {β ρ ε Z S' S1 Zx : Type} {J : Jn β ρ ε Z} {G : List Slot} {slk : S' → List Slot} {rest body suite : List Stmt} {e : Expr} {pos p pos2 : Pos} {m : Md}
theorem xb_raise1 {α : Type} {r : Rp α} [Mo r] [t : Tod r] {f : R Er α} {x fl : Str} {k j : Nat} (z : Z) (hz : Lw G (J.slz z)) (X1 : Xk C.X.prog C.X.w C.X.K C.X.mg C.T x k fl) (hr : Room (j + 1) C.X.A) (he : XE C e G .sh r f) (hc : C.X.calm = true := by rfl) (hg : Gl C.X x := by rfl)
    (hdb : (x == ("__debug__" : Str)) = false := by decide) (hs : starEach [e] C.X.env = (false, eval e C.X.env) :: starEach [] C.X.env := by exact star_cons rfl) :
    XB C J (.Raise (some (.Call (.Name x p) [e] [] pos)) none pos2 :: rest) G slk (fun _ => f.thn (fun y => J.em y z) fun a => .er (J.em (k, [t.d a]) z)) := ⟨fun F0 H0 A D an k' hk hA σ F H E => by
  have he := he.h F0 H0
  refine tS_le (pss_cons (ps_raise1 X1 hr C.tk (pa_cons pE pa_nil hs) hc hg hdb hs) pS) ?_
  cases f with
  | ok a => exact gk_raise1 (T := C.T) (r := r) (k := k) (W := C.W) (D := D) he rfl X1.flds (fun σ F H E' cls d r => an.er _ z hA σ F H cls d (E'.weak hz) r) σ F H E
  | er y => exact he σ F H E (an.air hz hA E) _
  | no => exact (an.no hA).elim⟩
def tryR {ε' : Type} (x : R ε' ((β × Zx) ⊕ S1)) (fr : β → Zx → R ε ρ) (fn : S1 → R ε ρ) (fe : ε' → R ε ρ) : R ε ρ := match x with
  | .ok (.inl b) => fr b.1 b.2
  | .ok (.inr s) => fn s
  | .er e => fe e
  | .no => .no
abbrev jnT (J : Jn β ρ ε Z) (slx : Zx → List Slot) (S1 : Type) : Jn β ((β × Zx) ⊕ S1) (Er × Zx) Zx := ⟨J.rs, fun b z => .inl (b, z), slx, fun e z => (e, z)⟩
abbrev cnT (C : Cn) (pn : List (Addr × Obj)) (xe : Value → Shared → Prop) (W : WX) (tk : Takes (C.X.tr pn xe) W) : Cn := ⟨C.X.tr pn xe, C.T, W, tk, C.nd⟩
abbrev cnS (C : Cn) (a : Addr) (oe : Obj) (pn : List (Addr × Obj)) : Cn := ⟨C.X.suite a ((a, oe) :: pn), C.T, fun _ _ _ _ => False, takes0, C.nd⟩
/-- the except clauses -/
def XH (C : Cn) (J : Jn β ρ ε Z) (slx : Zx → List Slot) (slj : S1 → List Slot) (hds : List ExceptHandler) (Hm : Er × Zx → (S1 → R ε ρ) → R ε ρ) : Prop :=
  ∃ l, ClsOk C.X hds l ∧ ∀ (F0 H0 : Hp) (A : R ε ρ → Prop) (D : Ends), Ans C J F0 H0 A D.rt → ∀ k : S1 → R ε ρ, (∀ s, A (k s) → Gk F0 H0 D.nx (slj s)) → ∀ e z, A (Hm (e, z) k) → Air F0 H0 (slx z) C.T (wCl C.X.K C.W D l) e
theorem xh_nil {slx : Zx → List Slot} {slj : S1 → List Slot} (zz : Zx → Z) (hzz : ∀ z, Lw (slx z) (J.slz (zz z))) : XH C J slx slj [] (fun e _ => .er (J.em e.1 (zz e.2))) := ⟨[], .nil, fun F0 H0 A D an k hk e z hA => air_nil fun σ F H E cls d r => an.er e (zz z) hA σ F H cls d (E.weak (hzz z)) r⟩
/-- what is meant by a clause's answer -/
def clsR (mt : Nat → Option Bool) (k : Nat) (y n : R ε ρ) : R ε ρ := match mt k with
  | some true => y
  | some false => n
  | none => .no
theorem xh_as {slx : Zx → List Slot} {slj : S1 → List Slot} {x n : Str} {c : Value} {b₀ : Stmt} {suite : List Stmt} {np pos' : Pos} {hds : List ExceptHandler} {Hm : Er × Zx → (S1 → R ε ρ) → R ε ρ} {M : Er → Zx → (S1 → R (Er × Zx) ((β × Zx) ⊕ S1)) → R (Er × Zx) ((β × Zx) ⊕ S1)}
    (i : Nat) (mt : Nat → Option Bool) (zz : Zx → Z) (hzz : ∀ z, Lw (slx z) (J.slz (zz z))) (hc : Names C.X x c) (hm : ∀ k b, mt k = some b → PySem.W.exmOne C.X.K (.ref (C.T.cls k)) c = some b) (hgone : ∀ s, (slj s).set i .no = slj s)
    (hsu : ∀ (a : Addr) (oe : Obj) (cls : Value) (d : Option Addr) (pn : List (Addr × Obj)), Zc cls d oe → (∃ vs, oe.data = .fields vs) → ∀ (e : Er) (z : Zx), mt e.1 = some true → XB (cnS C a oe pn) (jnT J slx S1) (b₀ :: suite) ((slx z).set i (sF (rXc C.T a cls d) e)) slj (M e z))
    (hr : XH C J slx slj hds Hm) (hi : C.X.N[i]? = some n := by rfl) (hln : C.X.env.kindOf n = some .local := by rfl) :
    XH C J slx slj (.ExceptHandler (some (.Name x np)) (some n) (b₀ :: suite) pos' :: hds) (fun ez k => clsR mt ez.1.1 (tryR (M ez.1 ez.2 fun s => .ok (.inr s)) (fun b z => .ok (J.ret b (zz z))) k (fun _ => .no)) (Hm ez k)) := by
  obtain ⟨l, hl, hr⟩ := hr
  refine ⟨(c, some i, fun a cls d D σ H => ∀ oe pn, Zc cls d oe → (∃ vs, oe.data = .fields vs) → tS (C.X.suite a ((a, oe) :: pn)) (b₀ :: suite) D σ H) :: l, .as hc hi hln (fun a oe cls d pn hz hv => ⟨fun pins s σ H D I h => h oe pn hz hv pins s I⟩) hl, fun F0 H0 A D an k hk e z hA => ?_⟩
  unfold clsR at hA
  cases hmt : mt e.1 with
  | none => simp only [hmt] at hA; exact (an.no hA).elim
  | some b =>
    simp only [hmt] at hA
    refine air_as (hm _ _ hmt) (fun hb a cls d σ F H E oe pn hz hv => ?_) (fun hb => ?_)
    · subst hb
      have hA : A (tryR (M e z fun s => .ok (.inr s)) (fun b z => .ok (J.ret b (zz z))) k (fun _ => .no)) := hA
      refine (hsu a oe cls d pn hz hv e z hmt).h F0 H0 (fun r => A (tryR r (fun b z => .ok (J.ret b (zz z))) k (fun _ => .no))) (goneD i D) ⟨fun h => an.no h, fun b z h σ F H v E => an.ret b (zz z) h σ F H v (E.weak ⟨.inr rfl, hzz z⟩), fun e z h => (an.no h).elim⟩ (fun s => .ok (.inr s)) (fun s h => ?_) hA σ F H E
      exact gk_gone (by rw [hgone s]; exact hk s h)
    · subst hb
      exact hr F0 H0 A D an k hk e z hA
theorem xb_try {slx : Zx → List Slot} {slj : S1 → List Slot} {h₀ : ExceptHandler} {hds : List ExceptHandler} {Hm : Er × Zx → (S1 → R ε ρ) → R ε ρ} {Mb : (S1 → R (Er × Zx) ((β × Zx) ⊕ S1)) → R (Er × Zx) ((β × Zx) ⊕ S1)} {M : S1 → (S' → R ε ρ) → R ε ρ}
    (zz : Zx → Z) (hzz : ∀ z, Lw (slx z) (J.slz (zz z)))
    (hb : ∀ pn xe W (tk : Takes (C.X.tr pn xe) W), PassesOwn (model C.X.prog C.X.w) C.X.A C.X.env xe → XB (cnT C pn xe W tk) (jnT J slx S1) body G slj Mb) (hh : XH C J slx slj (h₀ :: hds) Hm) (hr : ∀ s, XB C J rest (slj s) slk (M s))
    (hs : C.X.stack = C.X.env :: C.X.outer := by rfl) (hf : C.X.env.frame = some C.X.env.locals := by rfl) :
    XB C J (.Try body (h₀ :: hds) [] [] pos :: rest) G slk (fun k => tryR (Mb fun s => .ok (.inr s)) (fun b z => .ok (J.ret b (zz z))) (fun s => M s k) (fun ez => Hm ez fun s => M s k)) := ⟨fun F0 H0 A D an k hk hA σ F H E => by
  obtain ⟨l, hl, hh⟩ := hh
  refine tS_le (pss_cons (ps_tryC (tb := fun W D σ H => ∀ pn xe (tk : Takes (C.X.tr pn xe) W), PassesOwn (model C.X.prog C.X.w) C.X.A C.X.env xe → tS (C.X.tr pn xe) body D σ H) hs hf C.nd C.tk (fun W pn xe tk po => ⟨fun pins s σ H D I h => h pn xe tk po pins s I⟩) hl) pS) ?_
  show ∀ pn xe (tk : Takes (C.X.tr pn xe) (wCl C.X.K C.W { D with nx := tS C.X rest D } l)), _ → _
  intro pn xe tk po
  have an' : Ans C J F0 H0 A (Ends.rt { D with nx := tS C.X rest D }) := an
  refine (hb pn xe _ tk po).h F0 H0 (fun r => A (tryR r (fun b z => .ok (J.ret b (zz z))) (fun s => M s k) (fun ez => Hm ez fun s => M s k))) { D with nx := tS C.X rest D } ⟨fun h => an.no h, fun b z h σ F H v E => an.ret b (zz z) h σ F H v (E.weak ⟨.inr rfl, hzz z⟩), fun e z h σ F H cls d E r => ?_⟩ (fun s => .ok (.inr s)) (fun s h => (hr s).h F0 H0 A D an k hk h) hA σ F H E
  exact hh F0 H0 A { D with nx := tS C.X rest D } an' _ (fun s h => (hr s).h F0 H0 A D an k hk h) e z h σ F H E cls d r⟩
end
section
variable {C : Cn} {G : List Slot} {pos p p2 pos2 : Pos} {a : Addr} {oe : Obj} {cls : Value} {d : Option Addr} {pn : List (Addr × Obj)} {x f y : Str}
def fldR (er : Er) (n : Nat) : R Er Dt := match er.2[n]? with
  | some x => .ok x
  | none => .no
theorem xxf {k : Nat} {fs : List Dt} {im : Mo (rXc C.T a cls d)} (i n : Nat) (hz : Zc cls d oe) (hv : ∃ vs, oe.data = .fields vs) (J : XfC C.X.K (C.T.cls k)) (hno : PySem.W.findIn C.X.K (.ref (C.T.cls k)) f = some none) (hfl : (C.T.flds k)[n]? = some f) (hi : G[i]? = some (.fz (rXc C.T a cls d) im (k, fs)) := by rfl)
    (hN : C.X.N[i]? = some x := by rfl) (hvi : Vis C.X.env.scope x := by first | exact Or.inl rfl | exact Or.inr (Or.inl rfl) | exact Or.inr (Or.inr rfl)) (hd : (x == ("__debug__" : Str)) = false := by decide) (hcd : (x == ("__classdict__" : Str)) = false := by decide)
    (hb : attributeBase (.Name x p) f C.X.env (eval (.Name x p) C.X.env) = eval (.Name x p) C.X.env := by rfl) : XE (cnS C a oe pn) (.Attribute (.Name x p) f pos) G .sh rDt (fldR (k, fs) n) := ⟨fun F0 H0 => by
  unfold fldR
  cases hx : ((k, fs) : Er).2[n]? with
  | none => trivial
  | some y => exact fun σ F H E Q q => tE_le (pe_xf (X := C.X) J hno hz hv (pe_var (X := C.X.suite a ((a, oe) :: pn)) hN hvi hd hcd) hb) (ed_xf (F0 := F0) (H0 := H0) (i := i) hi rfl hfl hx σ F H E Q q)⟩
end
end LJ
set_option Elab.async false
set_option linter.all false
set_option maxRecDepth 100000
set_option maxHeartbeats 4000000
set_option autoImplicit false
namespace R
variable {ε δ α β : Type}
theorem thn_id (x : R ε α) (k : α → R ε β) : (x.thn (fun y => y) k) = x.bind k := by cases x <;> rfl
theorem bind_ok (x : R ε α) : (x.bind fun a => R.ok a) = x := by cases x <;> rfl
end R
namespace LJ
open PySem L2 LK LKX PyProof.Rows PySem.Spec
theorem XB.cast {C : Cn} {β ρ ε Z S' : Type} {J : Jn β ρ ε Z} {G : List Slot} {slk : S' → List Slot} {st : List Stmt} {M M' : (S' → R ε ρ) → R ε ρ} (h : XB C J st G slk M) (e : ∀ k, M k = M' k) : XB C J st G slk M' := ⟨fun F0 H0 A D an k hk hA => h.h F0 H0 A D an k hk (e k ▸ hA)⟩
/-- by values, the body's answers as one function -/
theorem xb_forv {C : Cn} {β ρ ε Z S' T : Type} {J : Jn β ρ ε Z} {G : List Slot} {slk : S' → List Slot} {tg it : Expr} {rest body : List Stmt} {pos : Pos} {m : Md} {α : Type} {r : Rp α} {fx : R Er (List α)} {up : α → List Slot → List Slot} {tl : List Nat} {M : T → (S' → R ε ρ) → R ε ρ} (st : T → α → R ε T) (slT : T → List Slot) (t0 : T) (z : Z) (hz : Lw G (J.slz z)) (h0 : Lw G (slT t0))
    (po : PassesOwn (model C.X.prog C.X.w) C.X.A C.X.env C.X.xe) (hi : XI C tg it G m r fx) (hg : XG C tg m r up tl) (G' : T → α → List Slot) (hG : ∀ t x, up x (slT t) = G' t x) (hb : ∀ t x, XB C J body (G' t x) slT (fun k => (st t x).bind k)) (hr : ∀ t, XB C J rest (slT t) slk (M t))
    (hc : C.X.calm = true := by rfl) (hs : ∀ x, foldedSetIterable it C.X.env x = pure x := by intro _; rfl) :
    XB C J (.For tg it body [] pos :: rest) G slk (fun k => fx.thn (fun y => J.em y z) fun xs => (R.foldR st t0 xs).bind fun t => M t k) := LJ.xb_forv0 st slT t0 z hz h0 po hi hg G' hG hb (fun _ _ _ => rfl) hr hc hs
section
variable {C : Cn} {G : List Slot} {m m1 m2 : Md} {tg a b e : Expr} {es : List Expr} {x : Str} {p pos : Pos}
theorem xi_str {f : R Er (List Nat)} (h : XE C e G m rTx f) : XI C tg e G .sh rTx (f.bind fun x => .ok (x.map fun c => [c])) := ⟨fun F0 H0 =>
  Ir.le (ir_bind (w := iStr (tE C.X e)) (h.h F0 H0) (fun x z σ F H E w Rr => z σ F H E w _) fun x hx => ei_str hx) fun _ _ _ q => tI_le (pi_str pE) q⟩
instance : DecidableEq Dt := fun a b => if h : same a b = true then .isTrue ((same_iff a b).mp h) else .isFalse fun e => h ((same_iff a b).mpr e)
instance : Tod rDt := ⟨id, fun h => h, fun h => h⟩
theorem xsame0 {α β : Type} {ra : Rp α} {rb : Rp β} {n : Nat} {u : R Er α} {v : R Er β} {o : α → β → R Er Bool} (ha : XE C a G m1 ra u) (hb : XE C b G m2 rb v) (q : PE C.X e (tCall (spSame n) [] E0 (tCons (tE C.X a) (tCons (tE C.X b) tNil))))
    (ho : ∀ F0 H0 y z, Ed F0 H0 (tE C.X a) G m1 ra y → Ed F0 H0 (tE C.X b) G m2 rb z → Dr C F0 H0 (tCall (spSame n) [] E0 (tCons (tE C.X a) (tCons (tE C.X b) tNil))) G .sh rBl (o y z)) : XE C e G .sh rBl (u.bind fun y => v.bind fun z => o y z) := ⟨fun F0 H0 => by
  have ha := ha.h F0 H0; have hb := hb.h F0 H0
  refine Dr.le (t := tCall (spSame n) [] E0 (tCons (tE C.X a) (tCons (tE C.X b) tNil))) ?_ fun _ _ _ h => tE_le q h
  cases u with
  | no => trivial
  | er y => exact fun σ F H E w Q => ha σ F H E w _
  | ok x =>
    cases v with
    | no => trivial
    | er y => exact fun σ F H E w Q => ha σ F H E _ fun v F1 H1 g1 _ => hb σ F1 H1 (E.gro g1) (fun F' H' cls d g z => w F' H' cls d (g1.trans g) z) _
    | ok y => exact ho F0 H0 x y ha hb⟩
theorem xsame {α : Type} {r : Rp α} [ht : Tod r] [DecidableEq α] {k n j : Nat} [hd : Dep r k] {f : Addr} {fd : FuncData} {ps : List Str} {u v : R Er α} (Cl : Cal C.X.K C.X.mg x f fd ps) (Fo : FnOk C.X.prog C.X.w C.X.K C.X.mg C.X.base CX0 (n + 1) f fd ps (spSame n)) (hr : Room j C.X.A) (ha : XE C a G m1 r u) (hb : XE C b G m2 r v)
    (hn : k ≤ n := by decide) (hk : n + 1 ≤ j := by decide) (hg : Gl C.X x := by rfl) (hdb : (x == ("__debug__" : Str)) = false := by decide) (he : starEach [a, b] C.X.env = (false, eval a C.X.env) :: starEach [b] C.X.env := by exact star_cons rfl) (he2 : starEach [b] C.X.env = (false, eval b C.X.env) :: starEach [] C.X.env := by exact star_cons rfl) (hpl : (backTo pos (starEach [b] C.X.env)).any (·.1) = false := by rfl) :
    XE C (.Call (.Name x p) [a, b] [] pos) G .sh rBl (u.bind fun y => v.bind fun z => .ok (decide (y = z))) :=
  xsame0 ha hb (pe_call Fo (hr.mono hk) hg Cl.mg Cl.kp Cl.bi .nil pass0 (pa_cons pE (pa_cons pE pa_nil he2) he) hdb he hpl) fun F0 H0 y z h1 h2 => ed_same h1 h2 hn
def sameR (n : Nat) (y z : Dt) : R Er Bool := R.iff (z.dep ≤ n) (.ok (decide (y = z)))
theorem xsameD {n j : Nat} {f : Addr} {fd : FuncData} {ps : List Str} {u v : R Er Dt} (Cl : Cal C.X.K C.X.mg x f fd ps) (Fo : FnOk C.X.prog C.X.w C.X.K C.X.mg C.X.base CX0 (n + 1) f fd ps (spSame n)) (hr : Room j C.X.A) (ha : XE C a G m1 rDt u) (hb : XE C b G m2 rDt v)
    (hk : n + 1 ≤ j := by decide) (hg : Gl C.X x := by rfl) (hdb : (x == ("__debug__" : Str)) = false := by decide) (he : starEach [a, b] C.X.env = (false, eval a C.X.env) :: starEach [b] C.X.env := by exact star_cons rfl) (he2 : starEach [b] C.X.env = (false, eval b C.X.env) :: starEach [] C.X.env := by exact star_cons rfl) (hpl : (backTo pos (starEach [b] C.X.env)).any (·.1) = false := by rfl) :
    XE C (.Call (.Name x p) [a, b] [] pos) G .sh rBl (u.bind fun y => v.bind fun z => sameR n y z) :=
  xsame0 ha hb (pe_call Fo (hr.mono hk) hg Cl.mg Cl.kp Cl.bi .nil pass0 (pa_cons pE (pa_cons pE pa_nil he2) he) hdb he hpl) fun F0 H0 y z h1 h2 => dr_iff fun c =>
    (ed_call (ea_cons (Ed.bo h1) (ea_cons (Ed.bo h2) ea_nil)) (Pt.now _) c).cast (by
      show same y z = _
      by_cases h : y = z
      · rw [decide_eq_true h]; exact (same_iff y z).mpr h
      · rw [decide_eq_false h]
        cases e : same y z with
        | false => rfl
        | true => exact absurd ((same_iff y z).mp e) h)
end
section
variable {C : Cn} {β ρ ε Z S' : Type} {J : Jn β ρ ε Z} {G : List Slot} {slk : S' → List Slot} {e : Expr} {rest : List Stmt} {pos : Pos}
/-- a thing of the entry is kept -/
theorem xb_setb {α : Type} {r : Rp α} [im : Mo r] {f : R Er α} {M : α → (S' → R ε ρ) → R ε ρ} {x : Str} {pos' : Pos} (i : Nat) (G' : α → List Slot) (z : Z) (hz : Lw G (J.slz z)) (he : XE C e G .b0 r f) (hG : ∀ a, G.set i (.bw r im a) = G' a) (hr : ∀ a, XB C J rest (G' a) slk (M a))
    (hi : C.X.N[i]? = some x := by rfl) (hx : Loc C.X.env.scope x := by first | exact .inl rfl | exact .inr rfl) (hs : swapsWith e (some (.Name x pos')) pos.line C.X.env = pure false := by rfl) (hf : C.X.fn x = true ∨ C.X.env.scope.names.lookup x = some .local := by first | exact .inl rfl | exact .inr rfl) :
    XB C J (.Assign [.Name x pos'] e pos :: rest) G slk (fun k => f.thn (fun y => J.em y z) fun a => M a k) := ⟨fun F0 H0 A D an k hk hA σ F H E => by
  have he := he.h F0 H0
  refine tS_le (pss_cons (ps_set C.nd hi hx pE hs hf) pS) ?_
  cases f with
  | ok a => exact gk_setB (nx := tS C.X rest D) (rt := D.rt) (bk := D.bk) (ct := D.ct) he (hG a ▸ (hr a).h F0 H0 A D an k hk hA) σ F H E
  | er y => exact he σ F H E (an.air hz hA E) _
  | no => exact (an.no hA).elim⟩
end
end LJ
set_option Elab.async false
set_option linter.all false
set_option maxRecDepth 100000
set_option maxHeartbeats 4000000
set_option autoImplicit false
namespace R
variable {ε δ α β S : Type}
@[simp] theorem iff_pos' {c : Prop} [Decidable c] (h : c) (x : R ε α) : R.iff c x = x := if_pos h
theorem iff_of {c : Prop} [Decidable c] (h : c) (x : R ε α) : R.iff c x = x := if_pos h
/-- through a list, with what holds behind each item -/
theorem foldR_inv (f : S → α → R ε S) (P : Nat → S → Prop) : ∀ (xs : List α) (k : Nat) (s : S), P k s → (∀ j s x, xs[j]? = some x → P (k + j) s → ∃ s', f s x = .ok s' ∧ P (k + j + 1) s') → ∃ s', R.foldR f s xs = .ok s' ∧ P (k + xs.length) s'
  | [], k, s, h, _ => ⟨s, rfl, h⟩
  | x :: xs, k, s, h, hs => by
    obtain ⟨s1, e1, h1⟩ := hs 0 s x rfl h
    obtain ⟨s2, e2, h2⟩ := foldR_inv f P xs (k + 1) s1 h1 (fun j s y hy hp => by
      have := hs (j + 1) s y (by simpa using hy) (by rw [show k + (j + 1) = k + 1 + j by omega]; exact hp)
      rw [show k + (j + 1) + 1 = k + 1 + j + 1 by omega] at this
      exact this)
    refine ⟨s2, ?_, by rw [show k + (x :: xs).length = k + 1 + xs.length by simp; omega]; exact h2⟩
    show (f s x).bind _ = _
    rw [e1]; exact e2
theorem mapR_ok {p : α → R ε Bool} {f : α → R ε β} (p' : α → Bool) (g : α → β) : ∀ (xs : List α), (∀ x ∈ xs, p x = .ok (p' x)) → (∀ x ∈ xs, p' x = true → f x = .ok (g x)) → (R.mapR p f xs : R δ (List β)) = .ok ((xs.filter p').map g) := by
  intro xs
  induction xs with
  | nil => intro _ _; rfl
  | cons x xs ih =>
    intro hp hf
    have ih := ih (fun y hy => hp y (List.mem_cons_of_mem _ hy)) (fun y hy => hf y (List.mem_cons_of_mem _ hy))
    unfold R.mapR
    rw [hp x List.mem_cons_self]
    cases h : p' x with
    | false => simp [R.noer, h, ih]
    | true =>
      rw [hf x List.mem_cons_self h]
      simp [R.noer, h, ih]
theorem mapR_all {f : α → R ε β} (g : α → β) (xs : List α) (hf : ∀ x ∈ xs, f x = .ok (g x)) : (R.mapR (fun _ => R.ok true) f xs : R δ (List β)) = .ok (xs.map g) := by
  have := mapR_ok (δ := δ) (p := fun _ => (R.ok true : R ε Bool)) (f := f) (fun _ => true) g xs (fun _ _ => rfl) (fun x hx _ => hf x hx)
  rw [this, List.filter_eq_self.mpr (fun _ _ => rfl)]
end R
namespace LJ
open LK
theorem mulR_r {x y : Int} (h : -18446744073709551616 < y ∧ y < 18446744073709551616) : mulR x y = .ok (x * y) := R.iff_of (.inr h) _
theorem mulR_l {x y : Int} (h : -18446744073709551616 < x ∧ x < 18446744073709551616) : mulR x y = .ok (x * y) := R.iff_of (.inl h) _
theorem modR_ok {x y : Int} (h : 0 < y) : modR x y = .ok (x % y) := R.iff_of h _
theorem divR_ok {x y : Int} (h : 0 < y ∧ y < 1073741824) : divR x y = .ok (x / y) := R.iff_of h _
theorem rngR_ok {n : Int} (h : n ≤ 16777216 ∧ -16777216 ≤ n) : rngR n = .ok (rng n) := R.iff_of h _
theorem appR_ok {ε α : Type} {xs : List α} {a : α} (h : xs.length < 16777216) : (appR xs a : R ε (List α)) = .ok (xs ++ [a]) := R.iff_of h _
theorem catR_ok {x y : List Nat} (h : x.length + y.length ≤ 16777216) : catR x y = .ok (x ++ y) := R.iff_of h _
theorem catLR_ok {α : Type} {x y : List α} (h : x.length + y.length ≤ 16777216) : catLR x y = .ok (x ++ y) := R.iff_of h _
theorem lenR_ok {α : Type} {x : List α} (h : x.length ≤ 16777216) : lenR x = .ok x := R.iff_of h _
theorem ixR_ok {α : Type} [Inhabited α] {x : List α} {i : Int} (h : ixOk x.length i) : ixR x i = .ok (ixD x i) := R.iff_of h _
theorem ixTR_ok {x : List Nat} {i : Int} (h : ixOk x.length i) : ixTR x i = .ok [ixD x i] := R.iff_of h _
theorem joinR_ok {xs : List (List Nat)} (h : xs.flatten.length ≤ 16777216) : joinR [] xs = .ok xs.flatten := R.iff_of ⟨rfl, h⟩ _
theorem ixR_mem {α : Type} [Inhabited α] {x : List α} {i : Int} (h : 0 ≤ i ∧ i < x.length) : ∃ a, a ∈ x ∧ ixR x i = .ok a := ⟨_, ixD_mem ⟨by omega, h.2⟩, ixR_ok ⟨by omega, h.2⟩⟩
theorem niTR_1 (c : Nat) (y : List Nat) : niTR [c] y = .ok (!decide (c ∈ y)) := rfl
theorem sIx_nat (n d k : Nat) : HT.sIx n d (some (k : Int)) = min k n := by
  unfold HT.sIx
  simp only
  rw [if_neg (by omega)]
  omega
theorem cutL_pre {α : Type} (x : List α) (n : Nat) : cutL x none (some (n : Int)) = x.take n := by
  unfold cutL
  rw [sIx_nat]
  show (x.drop (HT.sIx x.length 0 none)).take (min n x.length - HT.sIx x.length 0 none) = _
  have e : HT.sIx x.length 0 none = 0 := rfl
  rw [e]
  simp [List.take_eq_take_iff]
theorem cutL_suf {α : Type} (x : List α) (n : Nat) : cutL x (some (n : Int)) none = x.drop n := by
  unfold cutL
  rw [sIx_nat]
  have e : HT.sIx x.length x.length none = x.length := rfl
  rw [e]
  by_cases h : n ≤ x.length
  · rw [Nat.min_eq_left h, List.take_of_length_le (by simp)]
  · rw [Nat.min_eq_right (by omega), List.drop_of_length_le (Nat.le_refl _), List.drop_of_length_le (by omega)]; simp
end LJ
set_option Elab.async false
set_option linter.all false
set_option maxRecDepth 100000
set_option maxHeartbeats 4000000
set_option autoImplicit false
namespace LK
open PySem L2 PyProof.Rows
section
variable {κ β : Type} [DecidableEq κ]
def getA (d : List (κ × β)) (k : κ) : Option β := (d.find? fun kv => decide (kv.1 = k)).map (·.2)
def putA (d : List (κ × β)) (k : κ) (v : β) : List (κ × β) :=
  if (d.any fun kv => decide (kv.1 = k)) = true then d.map (fun kv => if kv.1 = k then (kv.1, v) else kv) else d ++ [(k, v)]
def dropA (d : List (κ × β)) (k : κ) : List (κ × β) := d.filter fun kv => decide (kv.1 ≠ k)
def ofA (l : List (κ × β)) : List (κ × β) := l.foldl (fun d kv => putA d kv.1 kv.2) []
theorem len_putA (d : List (κ × β)) (k : κ) (v : β) : (putA d k v).length ≤ d.length + 1 := by
  unfold putA
  split
  · rw [List.length_map]; omega
  · rw [List.length_append, List.length_cons, List.length_nil]; omega
theorem len_ofA : ∀ (l d : List (κ × β)), (l.foldl (fun d kv => putA d kv.1 kv.2) d).length ≤ d.length + l.length
  | [], d => by show d.length ≤ d.length + 0; omega
  | x :: l, d => by
    have h1 := len_ofA l (putA d x.1 x.2)
    have h2 := len_putA d x.1 x.2
    show (l.foldl _ (putA d x.1 x.2)).length ≤ _
    rw [List.length_cons]; omega
end
class Ke {κ : Type} (r : Rp κ) where
  key : κ → Key
  inj : ∀ {a b : κ}, key a = key b → a = b
  of : ∀ {F : Hp} {v : V} {a : κ}, r F v a → v = kV (key a)
instance : Ke rInt := ⟨fun i => .inl i, fun h => Sum.inl.inj h, fun h => h⟩
instance : Ke rTx := ⟨fun l => .inr ⟨l.toArray⟩, fun {a b} h => by
  have h := Sum.inr.inj h
  have h : a.toArray = b.toArray := by injection h
  simpa using h, fun h => h.1⟩
/-- an item -/
def PK {κ β : Type} (rk : Rp κ) [Ke rk] (rv : Rp β) (F : Hp) (kv : Key × V) (x : κ × β) : Prop := kv.1 = Ke.key rk x.1 ∧ rk F (kV kv.1) x.1 ∧ rv F kv.2 x.2
def rDk {κ β : Type} (rk : Rp κ) [Ke rk] (rv : Rp β) : Rp (List (κ × β)) := fun F v d => ∃ p kvs, v = .ref p ∧ Rd F p (.dK kvs) ∧ Paired (PK rk rv F) kvs d
/-- an own dict -/
def mD {κ β : Type} (rk : Rp κ) [Ke rk] (rv : Rp β) (d : List (κ × β)) : Mu := fun F H p S => S = [p] ∧ ∃ kvs, H p = some (.dK kvs) ∧ Paired (PK rk rv F) kvs d
section
variable {κ β : Type} {rk : Rp κ} [ke : Ke rk] {rv : Rp β}
theorem PK.mo [Mo rk] [Mo rv] {F F' : Hp} (e : Exs F F') {kv : Key × V} {x : κ × β} (h : PK rk rv F kv x) : PK rk rv F' kv x := ⟨h.1, Mo.mo e h.2.1, Mo.mo e h.2.2⟩
instance [Mo rk] [Mo rv] : Mo (rDk rk rv) := ⟨fun e ⟨p, kvs, h1, h2, h3⟩ => ⟨p, kvs, h1, e.rd h2 rfl, pmap (fun _ _ z => z.mo e) h3⟩⟩
instance : Nn (rDk rk rv) := ⟨fun ⟨_, _, h, _⟩ => by rw [h]; intro z; cases z⟩
instance [Mo rk] [Mo rv] (d : List (κ × β)) : MoM (mD rk rv d) := ⟨fun e k ⟨h0, kvs, h1, h2⟩ => ⟨h0, kvs, by rw [k _ (by rw [h0]; exact List.mem_cons_self)]; exact h1, pmap (fun _ _ z => z.mo e) h2⟩,
  fun ⟨h0, kvs, h1, _⟩ a ha => by rw [h0] at ha; rw [List.mem_singleton.mp ha, h1]; exact (fun z => nomatch z), fun ⟨h0, kvs, h1, _⟩ a ha o e => by rw [h0] at ha; rw [List.mem_singleton.mp ha, h1] at e; cases e; rfl⟩
abbrev sD (rk : Rp κ) [Ke rk] (rv : Rp β) [Mo rk] [Mo rv] (d : List (κ × β)) : Slot := sO (mD rk rv d)
variable [DecidableEq κ]
theorem pk_get {F : Hp} {k : κ} : ∀ {kvs : List (Key × V)} {d : List (κ × β)}, Paired (PK rk rv F) kvs d → (valV kvs (ke.key k) = none ∧ getA d k = none) ∨ ∃ v b, valV kvs (ke.key k) = some v ∧ getA d k = some b ∧ rv F v b
  | _, _, .nil => .inl ⟨rfl, rfl⟩
  | _, _, .cons (a := kv) (b := x) h t => by
    by_cases e : x.1 = k
    · refine .inr ⟨kv.2, x.2, valV_pos (by rw [h.1, e]), ?_, h.2.2⟩
      unfold getA; rw [List.find?_cons, decide_eq_true e]; rfl
    · have e' : ¬ kv.1 = ke.key k := fun z => e (ke.inj (h.1.symm.trans z))
      rw [valV_neg e']
      have g : ∀ l, getA (x :: l) k = getA l k := fun l => by unfold getA; rw [List.find?_cons, decide_eq_false e]
      rw [g]
      exact pk_get t
theorem pk_some {F : Hp} {k : κ} {kvs : List (Key × V)} {d : List (κ × β)} (p : Paired (PK rk rv F) kvs d) {b : β} (h : getA d k = some b) : ∃ v, valV kvs (ke.key k) = some v ∧ rv F v b := by
  rcases pk_get (k := k) p with ⟨_, g⟩ | ⟨v, b', e, g, r⟩
  · rw [h] at g; cases g
  · rw [h] at g; cases g; exact ⟨v, e, r⟩
theorem pk_isS {F : Hp} {k : κ} {kvs : List (Key × V)} {d : List (κ × β)} (p : Paired (PK rk rv F) kvs d) : (valV kvs (ke.key k)).isSome = (getA d k).isSome := by
  rcases pk_get (k := k) p with ⟨e, g⟩ | ⟨v, b', e, g, r⟩ <;> rw [e, g] <;> rfl
theorem pk_any {F : Hp} {k : κ} : ∀ {kvs : List (Key × V)} {d : List (κ × β)}, Paired (PK rk rv F) kvs d → (kvs.any fun kv => decide (kv.1 = ke.key k)) = d.any fun kv => decide (kv.1 = k)
  | _, _, .nil => rfl
  | _, _, .cons (a := kv) (b := x) h t => by
    rw [List.any_cons, List.any_cons, pk_any t]
    congr 1
    by_cases e : x.1 = k
    · rw [decide_eq_true e, decide_eq_true (h.1.trans (congrArg _ e))]
    · rw [decide_eq_false e, decide_eq_false (fun z => e (ke.inj (h.1.symm.trans z)))]
theorem pk_map {F : Hp} {k : κ} {v : V} {b : β} (hv : rv F v b) : ∀ {kvs : List (Key × V)} {d : List (κ × β)}, Paired (PK rk rv F) kvs d → Paired (PK rk rv F) (kvs.map fun kv => if kv.1 = ke.key k then (kv.1, v) else kv) (d.map fun kv => if kv.1 = k then (kv.1, b) else kv)
  | _, _, .nil => .nil
  | _, _, .cons (a := kv) (b := x) h t => by
    rw [List.map_cons, List.map_cons]
    refine .cons ?_ (pk_map hv t)
    by_cases e : x.1 = k
    · rw [if_pos e, if_pos (h.1.trans (congrArg _ e))]; exact ⟨h.1, h.2.1, hv⟩
    · rw [if_neg e, if_neg (fun z => e (ke.inj (h.1.symm.trans z)))]; exact h
theorem pk_put {F : Hp} {k : κ} {v : V} {b : β} {kvs : List (Key × V)} {d : List (κ × β)} (hk : rk F (kV (ke.key k)) k) (hv : rv F v b) (p : Paired (PK rk rv F) kvs d) : Paired (PK rk rv F) (putK kvs (ke.key k) v) (putA d k b) := by
  unfold putK putA
  rw [pk_any p]
  split
  · exact pk_map hv p
  · exact papp p (.cons ⟨rfl, hk, hv⟩ .nil)
end
section
variable {F0 H0 : Hp} {G : List Slot} {m m1 m2 m3 : Md} {ta tb tc te : TE} {κ β : Type} {rk : Rp κ} [ke : Ke rk] {rv : Rp β} [DecidableEq κ]
theorem rd_now {F H : Hp} {p : Addr} {u : HO} (g : Gr F0 H0 F H) (hd : isD u = true) (h : Rd (pk m F H0 H) p u) : Rd H p u := (pk_now g).s.rd h hd
/-- d[k] -/
theorem ed_dget [Mo rk] [Mo rv] {d : List (κ × β)} {k : κ} {b : β} (hd : Ed F0 H0 ta G m (rDk rk rv) d) (hk : Ed F0 H0 tb G m2 rk k) (h : getA d k = some b) : Ed F0 H0 (tDGet ta tb) G m rv b := fun σ F H E Q q =>
  hd σ F H E _ fun v F1 H1 g1 h1 => hk σ F1 H1 (E.gro g1) _ fun w F2 H2 g2 h2 => by
    obtain ⟨p, kvs, rfl, r1, pp⟩ := mox (pk_mono (H0 := H0) m g2) h1
    obtain ⟨u, e, ru⟩ := pk_some pp h
    exact ⟨p, u, rfl, .inl ⟨kvs, _, rd_now (E.gr.trans (g1.trans g2)) rfl r1, ke.of h2, e.symm⟩, q u F2 H2 (g1.trans g2) ru⟩
theorem ed_din [Mo rk] [Mo rv] {d : List (κ × β)} {k : κ} (hk : Ed F0 H0 tb G m2 rk k) (hd : Ed F0 H0 ta G m1 (rDk rk rv) d) : Ed F0 H0 (tDIn tb ta) G m rBl (getA d k).isSome := fun σ F H E Q q =>
  hk σ F H E _ fun w F1 H1 g1 h1 => hd σ F1 H1 (E.gro g1) _ fun v F2 H2 g2 h2 => by
    obtain ⟨p, kvs, rfl, r1, pp⟩ := h2
    exact ⟨p, _, rfl, .inl ⟨kvs, _, rd_now (E.gr.trans (g1.trans g2)) rfl r1, ke.of h1, rfl⟩, q _ F2 H2 (g1.trans g2) (by rw [pk_isS pp]; rfl)⟩
/-- a new dict -/
def Endd (F0 H0 : Hp) (t : TE) (G : List Slot) (rk : Rp κ) [Ke rk] (rv : Rp β) (d : List (κ × β)) : Prop := ∀ σ F H, EnvOk F0 H0 G σ F H → ∀ Q : VK, (∀ p kvs F' H', Gr F H F' H' → H p = none → F' p = none → H' p = some (.dK kvs) → Paired (PK rk rv F') kvs d → Q (.ref p) H') → t σ H Q
theorem end_nil : Endd F0 H0 tDNewK G rk rv ([] : List (κ × β)) := fun σ F H E Q q p hp => q p [] F _ (Gr.wild E.gr.fh hp) hp (E.gr.fh.back hp) upd_same .nil
/-- d[k] = v, d own -/
theorem EnvOk.d_at {σ : L2.St} {F H : Hp} [Mo rk] [Mo rv] {d : List (κ × β)} {iM : MoM (mD rk rv d)} {i : Nat} (E : EnvOk F0 H0 G σ F H) (h : G[i]? = some (.ow (mD rk rv d) iM)) : ∃ p kvs, σ[i]? = some (some (.ref p)) ∧ F p = none ∧ H0 p = none ∧ H p = some (.dK kvs) ∧ Paired (PK rk rv F) kvs d := by
  obtain ⟨p, S, e, h1, rfl, kvs, h2, h3⟩ := E.ow_at h
  exact ⟨p, kvs, e, (h1 p (by simp)).1, (h1 p (by simp)).2, h2, h3⟩
theorem ed_od [Mo rk] [Mo rv] {d : List (κ × β)} {iM : MoM (mD rk rv d)} {i : Nat} (h : G[i]? = some (.ow (mD rk rv d) iM)) : Ed F0 H0 (tVar i) G .bo (rDk rk rv) d := fun σ F H E Q q => by
  obtain ⟨p, kvs, hx, h1, h2, h3, h4⟩ := E.d_at h
  exact ⟨_, hx, q _ F H (Gr.refl E.gr.fh) ⟨p, kvs, rfl, .inl h3, pmap (fun _ _ z => z.mo E.gr.fh.s) h4⟩⟩
theorem EnvOk.mutD {σ : L2.St} {F H : Hp} [Mo rk] [Mo rv] {d d' : List (κ × β)} {iM : MoM (mD rk rv d)} {iN : MoM (mD rk rv d')} {i : Nat} {p : Addr} {kvs : List (Key × V)} (E : EnvOk F0 H0 G σ F H) (hi : G[i]? = some (.ow (mD rk rv d) iM)) (hp : σ[i]? = some (some (.ref p))) (m : Paired (PK rk rv F) kvs d') :
    EnvOk F0 H0 (G.set i (.ow (mD rk rv d') iN)) σ F (upd H p (.dK kvs)) := by
  have gr := E.gr
  refine E.mut (p := p) (S := []) (S' := []) hi fun q S hq hS ⟨h0, ws, h1, h2⟩ => ?_
  rw [hp] at hq
  cases Option.some.inj (Option.some.inj hq)
  subst h0
  refine ⟨[p], Ex.refl F, fun a u h n => (by rw [n] at h; cases h), fun a ha _ _ => upd_ne fun z => ha (by rw [z]; exact List.mem_singleton.mpr rfl), fun a u h => ?_, fun a ha => ⟨.inl ha, ?_⟩, ?_⟩
  · have ha : a ≠ p := fun z => by rw [z, (hS p (by simp)).1] at h; cases h
    rw [upd_ne ha]; exact gr.fh a u h
  · rw [List.mem_singleton.mp ha]; exact (hS p (by simp)).1
  · exact ⟨rfl, kvs, upd_same, m⟩
theorem gk_dput {nx : L2.St → Hp → Prop} {rt : VK} {bk ct : L2.St → Hp → Prop} [im : Mo rk] [iv : Mo rv] [Fl rk] {d : List (κ × β)} {iM : MoM (mD rk rv d)} {k : κ} {b : β} {i : Nat} (hi : G[i]? = some (.ow (mD rk rv d) iM)) (hv : Ed F0 H0 te G .sh rv b) (hk : Ed F0 H0 tb G m2 rk k) (hl : d.length < 16777216) (kk : Gk F0 H0 nx (G.set i (sD rk rv (putA d k b)))) :
    Gk F0 H0 (sDPut (tVar i) tb te ⟨nx, rt, bk, ct⟩) G := fun σ F H E =>
  hv σ F H E _ fun v F1 H1 g1 hv => by
    have E1 := E.gro g1
    obtain ⟨p, kvs, hx, h1, h2, h3, h4⟩ := E1.d_at hi
    refine ⟨_, hx, hk σ F1 H1 E1 _ fun w F2 H2 g2 hw => ?_⟩
    have E2 := E1.gro g2
    obtain ⟨p', kvs', hx', h1', h2', h3', h4'⟩ := E2.d_at hi
    rw [hx] at hx'
    cases Option.some.inj (Option.some.inj hx')
    have ew := ke.of hw
    exact ⟨p, _, rfl, .inl ⟨kvs', _, h3', ew, by rw [plen h4']; exact sz_lt hl, rfl⟩, kk σ F2 _ (E2.mutD hi hx (pk_put (Fl.fl (ew ▸ hw)) (mox g2.ff hv) h4'))⟩
end
end LK
set_option Elab.async false
set_option linter.all false
set_option maxRecDepth 100000
set_option maxHeartbeats 4000000
set_option autoImplicit false
namespace LK
open PySem L2 LJ PyProof.Rows
/-- all but what stands at D -/
def but (D : Addr) (H : Hp) : Hp := fun a => if a = D then none else H a
theorem but_at {D : Addr} {H : Hp} : but D H D = none := if_pos rfl
theorem but_ne {D a : Addr} {H : Hp} (h : a ≠ D) : but D H a = H a := if_neg h
theorem but_back {D : Addr} {H : Hp} {o : HO} (e : H D = some o) : H = upd (but D H) D o := by
  funext a
  unfold upd but
  by_cases ha : a = D
  · rw [if_pos ha, ha]; exact e
  · rw [if_neg ha, if_neg ha]
theorem but_upd {D : Addr} {H : Hp} {o : HO} : upd H D o = upd (but D H) D o := by
  funext a
  unfold upd but
  by_cases ha : a = D
  · rw [if_pos ha, if_pos ha]
  · rw [if_neg ha, if_neg ha, if_neg ha]
/-- what grows, but for D -/
theorem slimG {F H F' H' : Hp} {D : Addr} {o : HO} (g : Gr F (upd H D o) F' H') (nF : F D = none) (nH : H D = none) (ht : isT o = false := by rfl) : Gr F H F' (but D H') ∧ F' D = none ∧ H' D = some o := by
  have nx : F' D = none := by
    exact g.fr nF upd_same ht
  refine ⟨⟨g.ff, fun a u e => ?_, fun a u e => ?_, fun a u e n => ?_⟩, nx, g.hh D _ upd_same⟩
  · have ha : a ≠ D := fun z => by rw [z, nx] at e; cases e
    rw [but_ne ha]; exact g.fh a u e
  · have ha : a ≠ D := fun z => by rw [z, nH] at e; cases e
    rw [but_ne ha]; exact g.hh a u (by rw [upd_ne ha]; exact e)
  · have ha : a ≠ D := fun z => by rw [z, nx] at e; cases e
    have z := g.nw a u e n
    rw [upd_ne ha] at z; exact z
section
variable {F0 H0 : Hp} {G : List Slot} {m m1 m2 : Md} {te tk tv : TE} {tt tt1 : TT} {wi wi1 : TI} {g g1 : TG}
theorem take_s {α : Type} {xs : List α} {i : Nat} {x : α} (hx : xs[i]? = some x) : xs.take (i + 1) = xs.take i ++ [x] := by
  rw [List.take_add_one, hx]; rfl
/-- a dict comprehension -/
theorem en_dc {α κ β : Type} {r : Rp α} {rk : Rp κ} [ke : Ke rk] {rv : Rp β} [DecidableEq κ] [Mo rk] [Fl rk] [Mo rv] {xs : List α} {up : α → List Slot → List Slot} {tg vs : List Nat} (p : α → Bool) (fk : α → κ) (fv : α → β) (hi : Ei F0 H0 wi G m r xs) (hg : Eg H0 g m r up tg) (hv : ∀ j ∈ tg, j ∈ vs)
    (ht : ∀ F1, Bs F0 H0 F1 → ∀ x ∈ xs, Et F1 H0 tt (up x (wipeG G vs)) (p x)) (he : ∀ F1, Bs F0 H0 F1 → ∀ x ∈ xs, p x = true → Ed F1 H0 tk (up x (wipeG G vs)) .sh rk (fk x)) (he2 : ∀ F1, Bs F0 H0 F1 → ∀ x ∈ xs, p x = true → Ed F1 H0 tv (up x (wipeG G vs)) .sh rv (fv x)) :
    Endd F0 H0 (tDc wi g tt tk tv vs) G rk rv (ofA ((xs.filter p).map fun x => (fk x, fv x))) := fun σ F H E Q q => hi σ F H E _ fun J F1 H1 g1 w hxl D hD => by
  have E1 := (E.gro g1).here
  have b1 : Bs F0 H0 F1 := (E.gr.trans g1).bs
  have nF1 : F1 D = none := g1.fh.back hD
  let Pv : Nat → Hp → Prop := fun i H' => ∃ F' Hm kvs, EnvOk F1 H0 (wipeG G vs) (wipe σ vs) F' Hm ∧ Gr F1 H1 F' Hm ∧ Hm D = none ∧ H' = upd Hm D (.dK kvs) ∧ Paired (PK rk rv F') kvs (ofA (((xs.take i).filter p).map fun x => (fk x, fv x)))
  refine ⟨fun i k H' => k = xs.length - i ∧ i ≤ xs.length ∧ Pv i H', ⟨xs.length, by simp, Nat.zero_le _, F1, H1, [], E1.wipeA vs, Gr.refl g1.fh, hD, rfl, by simp [ofA]; exact .nil⟩, ?_⟩
  rintro i k H' ⟨rfl, hi', F', Hm, kvs, E2, g2, nD, rfl, pw⟩
  have gw := Gr.wild (p := D) (o := .dK kvs) g2.fh nD
  have E3 := E2.gro gw
  have nF' : F' D = none := g2.fh.back nD
  have eH0 : Ex H0 (upd Hm D (.dK kvs)) := E3.gr.hh
  by_cases hlt : i < xs.length
  · refine .inr ⟨w.go i F' _ g2.ff E3.gr.fh eH0 hlt, Pv (i + 1), fun H'' p' => ⟨xs.length - (i + 1), by omega, rfl, hlt, p'⟩, fun v H'' y => ?_⟩
    obtain ⟨x, F3, hx, g3, rx⟩ := w.yld i F' _ v H'' g2.ff E3.gr.fh eH0 hlt y
    have hmem : x ∈ xs := List.mem_of_getElem? hx
    refine hg F1 _ _ F3 H'' v x (E3.gro g3) rx _ fun σ2 E4 hw2 => ⟨?_, ?_⟩
    · rw [hw2 vs hv, wipe_wipe fun _ z => z]
    refine ht F1 b1 x hmem σ2 F3 H'' E4 _ fun F4 H4 g4 => ?_
    have gx := g3.trans g4
    cases hp : p x with
    | false =>
      obtain ⟨z1, z2, z3⟩ := slimG gx nF' nD
      refine ⟨F4, _, kvs, E2.gro z1, g2.trans z1, but_at, but_back z3, ?_⟩
      rw [take_s hx, List.filter_append, List.filter_cons, if_neg (by rw [hp]; decide)]
      simpa using pmap (fun _ _ z => z.mo gx.ff.s) pw
    | true =>
      refine he F1 b1 x hmem hp σ2 F4 H4 (E4.gro g4) _ fun y5 F5 H5 g5 hy => he2 F1 b1 x hmem hp σ2 F5 H5 ((E4.gro g4).gro g5) _ fun y6 F6 H6 g6 hy6 => ?_
      have gy := (gx.trans g5).trans g6
      obtain ⟨z1, z2, z3⟩ := slimG gy nF' nD
      have hl : kvs.length < 16777216 := by
        rw [plen pw]
        have h1 := len_ofA (((xs.take i).filter p).map fun x => (fk x, fv x)) []
        have h2 := List.length_filter_le p (xs.take i)
        rw [List.length_take] at h2
        rw [List.length_map] at h1
        simp only [List.length_nil] at h1
        unfold ofA
        omega
      have ew := ke.of hy
      refine ⟨kvs, _, ew, z3, sz_lt hl, F6, _, _, E2.gro z1, g2.trans z1, but_at, but_upd, ?_⟩
      rw [take_s hx, List.filter_append, List.filter_cons, if_pos hp, List.map_append]
      unfold ofA
      rw [List.foldl_append]
      exact pk_put (Fl.fl (ew ▸ hy)) hy6 (pmap (fun _ _ z => z.mo gy.ff.s) pw)
  · have e : i = xs.length := by omega
    subst e
    rw [List.take_length] at pw
    exact .inl ⟨w.stop F' _ g2.ff E3.gr.fh eH0, q D kvs F' _ (g1.trans (g2.trans gw)) (g1.hh.back hD) nF' upd_same pw⟩
/-- two fors -/
theorem en_lc2 {α γ β : Type} {r : Rp α} {r1 : Rp γ} {r' : Rp β} [Mo r'] {xs : List α} {up : α → List Slot → List Slot} {up1 : γ → List Slot → List Slot} {tg tg1 vs vs1 : List Nat} (p : α → Bool) (ys : α → List γ) (p1 : α → γ → Bool) (f : α → γ → β)
    (hi : Ei F0 H0 wi G m r xs) (hg : Egs H0 g m r up tg) (hv : ∀ j ∈ tg, j ∈ vs) (ht : ∀ F1, Bs F0 H0 F1 → ∀ x ∈ xs, Et F1 H0 tt (up x (wipeG G vs)) (p x))
    (hi1 : ∀ F1, Bs F0 H0 F1 → ∀ x ∈ xs, p x = true → Ei F1 H0 wi1 (up x (wipeG G vs)) m1 r1 (ys x)) (hg1 : Egs H0 g1 m1 r1 up1 tg1) (hv1 : ∀ j ∈ tg1, j ∈ vs1)
    (ht1 : ∀ F1, Bs F0 H0 F1 → ∀ x ∈ xs, p x = true → ∀ y ∈ ys x, Et F1 H0 tt1 (up1 y (wipeG (up x (wipeG G vs)) vs1)) (p1 x y)) (he : ∀ F1, Bs F0 H0 F1 → ∀ x ∈ xs, p x = true → ∀ y ∈ ys x, p1 x y = true → Ed F1 H0 te (up1 y (wipeG (up x (wipeG G vs)) vs1)) .sh r' (f x y))
    (hlen : (((xs.filter p).map fun x => ((ys x).filter (p1 x)).map (f x)).flatten).length ≤ 16777216) :
    En F0 H0 (tLc2 wi g tt wi1 g1 tt1 te vs vs1) G r' (((xs.filter p).map fun x => ((ys x).filter (p1 x)).map (f x)).flatten) := fun σ F H E Q q => hi σ F H E _ fun J F1 H1 g1 w hxl D hD => by
  have E1 := (E.gro g1).here
  have b1 : Bs F0 H0 F1 := (E.gr.trans g1).bs
  have nF1 : F1 D = none := g1.fh.back hD
  let Fl : List α → List β := fun l => ((l.filter p).map fun x => ((ys x).filter (p1 x)).map (f x)).flatten
  have Fl_app : ∀ a b, Fl (a ++ b) = Fl a ++ Fl b := fun a b => by simp only [Fl]; rw [List.filter_append, List.map_append, List.flatten_append]
  let Pv : Nat → Hp → Prop := fun i H' => ∃ F' Hm ws, EnvOk F1 H0 (wipeG G vs) (wipe σ vs) F' Hm ∧ Gr F1 H1 F' Hm ∧ Hm D = none ∧ H' = upd Hm D (.lst ws) ∧ Paired (r' F') ws (Fl (xs.take i))
  refine ⟨fun i k H' => k = xs.length - i ∧ i ≤ xs.length ∧ Pv i H', ⟨xs.length, by simp, Nat.zero_le _, F1, H1, [], E1.wipeA vs, Gr.refl g1.fh, hD, rfl, by simp [Fl]; exact .nil⟩, ?_⟩
  rintro i k H' ⟨rfl, hi', F', Hm, ws, E2, g2, nD, rfl, pw⟩
  have gw := Gr.wild (p := D) (o := .lst ws) g2.fh nD
  have E3 := E2.gro gw
  have nF' : F' D = none := g2.fh.back nD
  have eH0 : Ex H0 (upd Hm D (.lst ws)) := E3.gr.hh
  by_cases hlt : i < xs.length
  · refine .inr ⟨w.go i F' _ g2.ff E3.gr.fh eH0 hlt, Pv (i + 1), fun H'' p' => ⟨xs.length - (i + 1), by omega, rfl, hlt, p'⟩, fun v H'' y => ?_⟩
    obtain ⟨x, F3, hx, g3, rx⟩ := w.yld i F' _ v H'' g2.ff E3.gr.fh eH0 hlt y
    have hmem : x ∈ xs := List.mem_of_getElem? hx
    refine hg F1 _ _ F3 H'' v x (E3.gro g3) rx _ fun σ2 tr hw2 => ⟨?_, ?_⟩
    · rw [hw2 vs hv, wipe_wipe fun _ z => z]
    have E4 : EnvOk F1 H0 (up x (wipeG G vs)) σ2 F3 H'' := tr F3 H'' (Ex.refl F3) (E3.gro g3)
    refine ht F1 b1 x hmem σ2 F3 H'' E4 _ fun F4 H4 g4 => ?_
    have gx := g3.trans g4
    cases hp : p x with
    | false =>
      obtain ⟨z1, z2, z3⟩ := slimG gx nF' nD
      refine ⟨F4, _, ws, E2.gro z1, g2.trans z1, but_at, but_back z3, ?_⟩
      rw [take_s hx, Fl_app]
      have e : Fl [x] = [] := by simp [Fl, hp]
      rw [e, List.append_nil]
      exact pmap (fun _ _ z => mox gx.ff z) pw
    | true =>
      refine hi1 F1 b1 x hmem hp σ2 F4 H4 (E4.gro g4) _ fun J1 F5 H5 g5 w1 hyl => ?_
      have gy := gx.trans g5
      obtain ⟨z1, z2, z3⟩ := slimG gy nF' nD
      have E5 : EnvOk F1 H0 (wipeG G vs) (wipe σ vs) F5 (but D H5) := E2.gro z1
      have E6 : EnvOk F1 H0 (wipeG (up x (wipeG G vs)) vs1) (wipe σ2 vs1) F5 (but D H5) := (tr F5 (but D H5) (g4.ff.trans g5.ff) E5).wipeA vs1
      have eFx : Fl [x] = ((ys x).filter (p1 x)).map (f x) := by simp [Fl, hp]
      let Pw : Nat → Hp → Prop := fun j H' => ∃ F' Hm ws, EnvOk F1 H0 (wipeG G vs) (wipe σ vs) F' Hm ∧ EnvOk F1 H0 (wipeG (up x (wipeG G vs)) vs1) (wipe σ2 vs1) F' Hm ∧ Gr F5 (but D H5) F' Hm ∧ Hm D = none ∧ H' = upd Hm D (.lst ws) ∧ Paired (r' F') ws (Fl (xs.take i) ++ (((ys x).take j).filter (p1 x)).map (f x))
      refine ⟨fun j k H' => k = (ys x).length - j ∧ j ≤ (ys x).length ∧ Pw j H', ⟨(ys x).length, by simp, Nat.zero_le _, F5, _, ws, E5, E6, Gr.refl E5.gr.fh, but_at, but_back z3, by simpa using pmap (fun _ _ z => mox gy.ff z) pw⟩, ?_⟩
      rintro j k H6 ⟨rfl, hj', F6, Hm6, ws6, A1, A2, g6, n6, rfl, pw6⟩
      have gw6 := Gr.wild (p := D) (o := .lst ws6) g6.fh n6
      have B2 := A2.gro gw6
      have nF6 : F6 D = none := g6.fh.back n6
      have eH6 : Ex H0 (upd Hm6 D (.lst ws6)) := B2.gr.hh
      by_cases hjl : j < (ys x).length
      · refine .inr ⟨w1.go j F6 _ g6.ff B2.gr.fh eH6 hjl, Pw (j + 1), fun H'' p' => ⟨(ys x).length - (j + 1), by omega, rfl, hjl, p'⟩, fun v7 H7 y7 => ?_⟩
        obtain ⟨c, F7, hc, g7, rc⟩ := w1.yld j F6 _ v7 H7 g6.ff B2.gr.fh eH6 hjl y7
        have hcm : c ∈ ys x := List.mem_of_getElem? hc
        refine hg1 F1 _ _ F7 H7 v7 c (B2.gro g7) rc _ fun σ3 tr3 hw3 => ⟨?_, ?_⟩
        · rw [hw3 vs1 hv1, wipe_wipe fun _ z => z]
        have E8 := tr3 F7 H7 (Ex.refl F7) (B2.gro g7)
        refine ht1 F1 b1 x hmem hp c hcm σ3 F7 H7 E8 _ fun F8 H8 g8 => ?_
        have gz := g7.trans g8
        cases hp1 : p1 x c with
        | false =>
          obtain ⟨z1, z2, z3⟩ := slimG gz nF6 n6
          refine ⟨F8, _, ws6, A1.gro z1, A2.gro z1, g6.trans z1, but_at, but_back z3, ?_⟩
          rw [take_s hc, List.filter_append, List.filter_cons, if_neg (by rw [hp1]; decide)]
          simpa using pmap (fun _ _ z => mox gz.ff z) pw6
        | true =>
          refine he F1 b1 x hmem hp c hcm hp1 σ3 F8 H8 (E8.gro g8) _ fun y9 F9 H9 g9 hy => ?_
          have gq := gz.trans g9
          obtain ⟨z1, z2, z3⟩ := slimG gq nF6 n6
          have hl : ws6.length < 16777216 := by
            rw [plen pw6]
            have h1 : xs = xs.take i ++ (x :: xs.drop (i + 1)) := by
              have := (List.take_append_drop (i + 1) xs).symm
              rw [take_s hx, List.append_assoc] at this
              exact this
            have h2 : ys x = (ys x).take j ++ (c :: (ys x).drop (j + 1)) := by
              have := (List.take_append_drop (j + 1) (ys x)).symm
              rw [take_s hc, List.append_assoc] at this
              exact this
            have h3 : (Fl xs).length ≤ 16777216 := hlen
            rw [h1, Fl_app, show x :: xs.drop (i + 1) = [x] ++ xs.drop (i + 1) from rfl, Fl_app, eFx] at h3
            have h4 : (((ys x).filter (p1 x)).map (f x)).length = ((((ys x).take j).filter (p1 x)).map (f x)).length + ((((c :: (ys x).drop (j + 1))).filter (p1 x)).map (f x)).length := by
              rw [← List.length_append, ← List.map_append, ← List.filter_append, ← h2]
            have h5 : 1 ≤ ((((c :: (ys x).drop (j + 1))).filter (p1 x)).map (f x)).length := by
              rw [List.filter_cons, if_pos hp1]; simp
            simp only [List.length_append] at h3 ⊢
            omega
          refine ⟨ws6, z3, sz_lt hl, F9, _, ws6 ++ [y9], A1.gro z1, A2.gro z1, g6.trans z1, but_at, but_upd, ?_⟩
          rw [take_s hc, List.filter_append, List.filter_cons, if_pos hp1, List.map_append, ← List.append_assoc]
          exact papp (pmap (fun _ _ z => mox gq.ff z) pw6) (.cons hy .nil)
      · have e : j = (ys x).length := by omega
        subst e
        rw [List.take_length] at pw6
        refine .inl ⟨w1.stop F6 _ g6.ff B2.gr.fh eH6, F6, Hm6, ws6, A1, (g2.trans z1).trans g6, n6, rfl, ?_⟩
        rw [take_s hx, Fl_app, eFx]
        exact pw6
  · have e : i = xs.length := by omega
    subst e
    rw [List.take_length] at pw
    exact .inl ⟨w.stop F' _ g2.ff E3.gr.fh eH0, q D ws F' _ (g1.trans (g2.trans gw)) (g1.hh.back hD) nF' upd_same hlen pw⟩
end
end LK
set_option Elab.async false
set_option linter.all false
set_option maxRecDepth 100000
set_option maxHeartbeats 4000000
set_option autoImplicit false
namespace R
variable {ε δ α β : Type}
theorem cond_ok {b : Bool} {x y : α} : (cond b (R.ok x) (R.ok y) : R ε α) = R.ok (cond b x y) := by cases b <;> rfl
def okB (x : R ε Bool) : Bool := match x with | .ok b => b | _ => false
def okD [Inhabited β] (x : R ε β) : β := match x with | .ok b => b | _ => default
theorem map_okc [Inhabited β] {p : α → R ε Bool} {f : α → R ε β} : ∀ {xs : List α} {ys : List β}, (R.mapR p f xs : R δ (List β)) = .ok ys → (∀ x ∈ xs, (p x).noer = (.ok (okB (p x)) : R δ Bool) ∧ (okB (p x) = true → (f x).noer = (.ok (okD (f x)) : R δ β))) ∧ ys = (xs.filter fun x => okB (p x)).map fun x => okD (f x) := by
  intro xs
  induction xs with
  | nil => intro ys h; cases h; exact ⟨fun _ z => (nomatch z), rfl⟩
  | cons x xs ih =>
    intro ys h
    unfold R.mapR at h
    cases hp : p x with
    | er y => rw [hp] at h; cases h
    | no => rw [hp] at h; cases h
    | ok b =>
      rw [hp] at h
      cases b with
      | false =>
        have h : (R.mapR p f xs : R δ (List β)) = .ok ys := h
        obtain ⟨h1, h2⟩ := ih h
        refine ⟨fun y hy => ?_, by rw [h2]; simp [hp, okB]⟩
        rcases List.mem_cons.mp hy with e | hy
        · subst e; rw [hp]; exact ⟨rfl, fun z => nomatch z⟩
        · exact h1 y hy
      | true =>
        cases hf : f x with
        | er y => simp only [R.noer, hf, R.ok_bind, cond_true, R.no_bind] at h; cases h
        | no => simp only [R.noer, hf, R.ok_bind, cond_true, R.no_bind] at h; cases h
        | ok y =>
          simp only [R.noer, hf, R.ok_bind, cond_true] at h
          cases hm : (R.mapR p f xs : R δ (List β)) with
          | er z => rw [hm] at h; cases h
          | no => rw [hm] at h; cases h
          | ok zs =>
            rw [hm] at h
            cases h
            obtain ⟨h1, h2⟩ := ih hm
            refine ⟨fun z hz => ?_, by rw [h2]; simp [hp, hf, okB, okD]⟩
            rcases List.mem_cons.mp hz with e | hz
            · subst e; rw [hp, hf]; exact ⟨rfl, fun _ => rfl⟩
            · exact h1 z hz
end R
namespace LJ
open PySem L2 LK LKX PyProof.Rows PySem.Spec
section
variable {C : Cn} {G : List Slot} {m m1 m2 m3 : Md} {a b c e : Expr} {pos p apos : Pos} {x : Str} {κ β : Type} {rk : Rp κ} [ke : Ke rk] {rv : Rp β} [dk : DecidableEq κ] [mk : Mo rk] [mv : Mo rv]
def getR (d : List (κ × β)) (k : κ) : R Er β := match getA d k with
  | some b => .ok b
  | none => .no
theorem xdget {f : R Er (List (κ × β))} {g : R Er κ} {n : Nat} (hr : Room n C.X.A) (ha : XE C a G m (rDk rk rv) f) (hb : XE C b G m2 rk g) (hs : NoSl b := by exact fun _ _ => rfl) : XE C (.Subscript a b pos) G m rv (f.bind fun d => g.bind fun k => getR d k) := ⟨fun F0 H0 => by
  have ha := ha.h F0 H0; have hb := hb.h F0 H0
  refine Dr.le (t := tDGet (tE C.X a) (tE C.X b)) ?_ fun _ _ _ q => tE_le (pe_dget (by have := hr.units; omega) pE pE hs) q
  cases f with
  | no => trivial
  | er y => exact fun σ F H E w Q => ha σ F H E w _
  | ok d =>
    cases g with
    | no => trivial
    | er y => exact fun σ F H E w Q => ha σ F H E _ fun v F1 H1 g1 _ => hb σ F1 H1 (E.gro g1) (fun F' H' cls d g z => w F' H' cls d (g1.trans g) z) _
    | ok k =>
      show Dr C F0 H0 _ G m rv (getR d k)
      unfold getR
      cases h : getA d k with
      | none => trivial
      | some v => exact ed_dget ha hb h⟩
theorem xdin {f : R Er (List (κ × β))} {g : R Er κ} {n : Nat} (hr : Room n C.X.A) (hb : XE C b G m2 rk g) (ha : XE C a G m (rDk rk rv) f) : XC C .In b a G (g.bind fun k => f.bind fun d => .ok (getA d k).isSome) := ⟨fun F0 H0 => by
  have ha := ha.h F0 H0; have hb := hb.h F0 H0
  refine Dr.le (t := tDIn (tE C.X b) (tE C.X a)) ?_ fun _ _ _ q => tCm_le (pc_din (by have := hr.units; omega) pE pE) q
  cases g with
  | no => trivial
  | er y => exact fun σ F H E w Q => hb σ F H E w _
  | ok k =>
    cases f with
    | no => trivial
    | er y => exact fun σ F H E w Q => hb σ F H E _ fun v F1 H1 g1 _ => ha σ F1 H1 (E.gro g1) (fun F' H' cls d g z => w F' H' cls d (g1.trans g) z) _
    | ok d => exact ed_din hb ha⟩
/-- an own dict, read -/
theorem xvd {d : List (κ × β)} {iM : MoM (mD rk rv d)} (i : Nat) (h : G[i]? = some (.ow (mD rk rv d) iM) := by rfl) (hN : C.X.N[i]? = some x := by rfl) (hv : Vis C.X.env.scope x := by first | exact Or.inl rfl | exact Or.inr (Or.inl rfl) | exact Or.inr (Or.inr rfl)) (hd : (x == ("__debug__" : Str)) = false := by decide)
    (hcd : (x == ("__classdict__" : Str)) = false := by decide) : XE C (.Name x pos) G .bo (rDk rk rv) (.ok d) := ⟨fun F0 H0 σ F H E Q q => tE_le (pe_var hN hv hd hcd) (ed_od (F0 := F0) (H0 := H0) h σ F H E Q q)⟩
theorem dv_end {d : List (κ × β)} {F0 H0 : Hp} {t : TE} (h : Endd F0 H0 t G rk rv d) : Dv F0 H0 t G (sD rk rv d) := fun σ F H E Q q => h σ F H E Q fun p kvs F' H' g h1 h2 h3 h4 =>
  q _ F' H' g (env1o (S := [p]) E.gr.fh g (fun a ha => by rw [List.mem_singleton.mp ha]; exact ⟨h1, h2⟩) ⟨rfl, kvs, h3, h4⟩)
theorem xn_dnil : XN C (.Dict [] [] pos) G (fun d => sD rk rv d) (.ok []) := ⟨fun F0 H0 => by
  have h := dv_end (F0 := F0) (H0 := H0) (G := G) (end_nil (rk := rk) (rv := rv))
  exact fun σ F H E Q q => tE_le pe_dnewK (h σ F H E Q q)⟩
instance : Fzz (mD rk rv) (rDk rk rv) := ⟨fun {F F' H p S a} ⟨hS, kvs, e, h1⟩ hp ee => ⟨p, kvs, rfl, .inl (by rw [hp p (by rw [hS]; simp), e]), pmap (fun _ _ z => z.mo ee.s) h1⟩⟩
end
section
variable {C : Cn} {β ρ ε Z S' : Type} {J : Jn β ρ ε Z} {G : List Slot} {slk : S' → List Slot} {e ie : Expr} {rest : List Stmt} {pos p1 p2 : Pos} {m m2 : Md}
def putR {ε' κ γ : Type} [DecidableEq κ] (d : List (κ × γ)) (k : κ) (v : γ) : R ε' (List (κ × γ)) := R.iff (d.length < 16777216) (.ok (putA d k v))
/-- d[k] = v, d own -/
theorem xb_dput {κ γ : Type} {rk : Rp κ} [ke : Ke rk] {rv : Rp γ} [dk : DecidableEq κ] [mk : Mo rk] [fk : Fl rk] [mv : Mo rv] {f : R Er γ} {g : R Er κ} {d : List (κ × γ)} {iM : MoM (mD rk rv d)} {M : List (κ × γ) → (S' → R ε ρ) → R ε ρ} {x : Str} {n : Nat} (i : Nat) (G' : List (κ × γ) → List Slot) (z : Z) (hz : Lw G (J.slz z)) (hi : G[i]? = some (.ow (mD rk rv d) iM)) (hr' : Room n C.X.A)
    (he : XE C e G .sh rv f) (hk : XE C ie G m2 rk g) (hG : ∀ a, G.set i (sD rk rv a) = G' a) (hr : ∀ a, XB C J rest (G' a) slk (M a))
    (hN : C.X.N[i]? = some x := by rfl) (hv : Vis C.X.env.scope x := by first | exact Or.inl rfl | exact Or.inr (Or.inl rfl) | exact Or.inr (Or.inr rfl)) (hd : (x == ("__debug__" : Str)) = false := by decide) (hcd : (x == ("__classdict__" : Str)) = false := by decide)
    (hsw : swapsWith e (some (.Subscript (.Name x p1) ie p2)) pos.line C.X.env = pure false := by rfl) :
    XB C J (.Assign [.Subscript (.Name x p1) ie p2] e pos :: rest) G slk (fun k => f.thn (fun y => J.em y z) fun a => g.thn (fun y => J.em y z) fun j => (putR d j a).bind fun ys => M ys k) := ⟨fun F0 H0 A D an k hkk hA σ F H E => by
  have he := he.h F0 H0; have hk := hk.h F0 H0
  refine tS_le (pss_cons (ps_dput (by have := hr'.units; omega) (pe_var hN hv hd hcd) pE pE hsw) pS) ?_
  cases f with
  | no => exact (an.no hA).elim
  | er y => exact he σ F H E (an.air hz hA E) _
  | ok a =>
    cases g with
    | no => exact (an.no hA).elim
    | er y =>
      exact he σ F H E _ fun v F1 H1 g1 _ => by
        have E1 := E.gro g1
        obtain ⟨p, kvs, hx, _⟩ := E1.d_at hi
        exact ⟨_, hx, hk σ F1 H1 E1 (an.air hz hA E1) _⟩
    | ok j =>
      have hA : A ((putR d j a).bind fun ys => M ys k) := hA
      unfold putR R.iff at hA
      by_cases hl : d.length < 16777216
      · have hA : A (M (putA d j a) k) := by simpa [hl] using hA
        exact gk_dput (nx := tS C.X rest D) (rt := D.rt) (bk := D.bk) (ct := D.ct) hi he hk hl (hG (putA d j a) ▸ (hr (putA d j a)).h F0 H0 A D an k hkk hA) σ F H E
      · simp [hl] at hA; exact (an.no hA).elim⟩
end
section
variable {C : Cn} {G : List Slot} {m m1 m2 : Md} {a b c elt kx vx tg it tg1 it1 e : Expr} {ifs ifs1 : List Expr} {scope : Scope} {pos p apos : Pos} {x : Str}
/-- {k: v for tg in it if ..} -/
theorem xdc {α κ β : Type} [Inhabited κ] [Inhabited β] {r : Rp α} {rk : Rp κ} [ke : Ke rk] {rv : Rp β} [dk : DecidableEq κ] [mk : Mo rk] [fk : Fl rk] [mv : Mo rv] {fx : R Er (List α)} {up : α → List Slot → List Slot} {tl : List Nat} {pf : α → R Er Bool} {kf : α → R Er κ} {vf : α → R Er β} (own : List (Str × Nat)) (G' : α → List Slot)
    (hi : XI C tg it G m r fx) (hg : ∀ s H Cc cl fp, XG (cnB C s H scope Cc cl fp) tg m r up tl) (hG : ∀ x, up x (wipeG G (own.map (·.2))) = G' x)
    (ht : ∀ s H Cc cl fp x, XQs (cnB C s H scope Cc cl fp) ifs (G' x) (pf x)) (hk : ∀ s H Cc cl fp x, XE (cnB C s H scope Cc cl fp) kx (G' x) .sh rk (kf x)) (he : ∀ s H Cc cl fp x, XE (cnB C s H scope Cc cl fp) vx (G' x) .sh rv (vf x)) (hc : C.X.calm = true := by rfl) (hv : tl.all (fun j => decide (j ∈ own.map (·.2))) = true := by decide) (ok : blkC C.X.N C.X.env.scope scope own = true := by decide +kernel) (hs : ∀ x, foldedSetIterable it C.X.env x = pure x := by intro _; rfl) :
    XN C (.DictComp kx vx [⟨tg, it, ifs, 0⟩] scope pos) G (fun d => sD rk rv d) (fx.bind fun xs => (R.mapR pf (fun x => (kf x).bind fun k => (vf x).bind fun v => .ok (k, v)) xs).bind fun l => .ok (ofA l)) := ⟨fun F0 H0 => by
  have a1 : ∀ (s : Shared) (H : Hp) (Cc : Addr) (cl : List (Str × Addr)) (fp : List Addr), PG (C.X.blk s H scope (compEnvC scope cl Cc C.X.env) fp) tg (bG C.X scope tg) := fun s H Cc cl fp => ⟨fun pins s' σ H' v u Q I r h => h s H Cc cl fp pins s' u I r⟩
  have a2 : ∀ (s : Shared) (H : Hp) (Cc : Addr) (cl : List (Str × Addr)) (fp : List Addr), PTs (C.X.blk s H scope (compEnvC scope cl Cc C.X.env) fp) ifs (bTs C.X scope ifs) := fun s H Cc cl fp => ⟨fun pins s' σ H' Q I h => h s H Cc cl fp pins s' I⟩
  have a3 : ∀ (e : Expr) (s : Shared) (H : Hp) (Cc : Addr) (cl : List (Str × Addr)) (fp : List Addr), PE (C.X.blk s H scope (compEnvC scope cl Cc C.X.env) fp) e (bE C.X scope e) := fun e s H Cc cl fp => ⟨fun pins s' σ H' Q I h => h s H Cc cl fp pins s' I⟩
  refine Ds.le (t := tDc (tI C.X tg it) (bG C.X scope tg) (bTs C.X scope ifs) (bE C.X scope kx) (bE C.X scope vx) (own.map (·.2))) ?_ fun _ _ _ q => tE_le (pe_dc hc C.nd pI (blkOk_by ok) a1 a2 (a3 kx) (a3 vx) hs) q
  have hi := hi.h F0 H0
  cases fx with
  | no => trivial
  | er y => exact fun σ F H E w Q => hi σ F H E w _
  | ok xs =>
    show Ds C F0 H0 _ G _ ((R.mapR pf (fun x => (kf x).bind fun k => (vf x).bind fun v => .ok (k, v)) xs).bind fun l => .ok (ofA l))
    cases hm : (R.mapR pf (fun x => (kf x).bind fun k => (vf x).bind fun v => .ok (k, v)) xs : R Er (List (κ × β))) with
    | no => trivial
    | er y => exact absurd hm (mapR_ner xs)
    | ok ys =>
      obtain ⟨h1, rfl⟩ := R.map_okc hm
      have h2 : ∀ x ∈ xs, R.okB (pf x) = true → ∃ k v, kf x = .ok k ∧ vf x = .ok v ∧ R.okD ((kf x).bind fun k => (vf x).bind fun v => (.ok (k, v) : R Er (κ × β))) = (k, v) := fun x hx hp => by
        have z := (h1 x hx).2 hp
        cases hk : kf x with
        | no => rw [hk] at z; cases z
        | er y => rw [hk] at z; cases z
        | ok k =>
          cases hv : vf x with
          | no => rw [hk, hv] at z; cases z
          | er y => rw [hk, hv] at z; cases z
          | ok v => exact ⟨k, v, rfl, rfl, rfl⟩
      refine dv_end (en_dc (fun x => R.okB (pf x)) (fun x => (R.okD ((kf x).bind fun k => (vf x).bind fun v => (.ok (k, v) : R Er (κ × β)))).1) (fun x => (R.okD ((kf x).bind fun k => (vf x).bind fun v => (.ok (k, v) : R Er (κ × β)))).2) hi (m := m) (r := r) (up := up) (tg := tl) (fun F0 G σ F H v x E hv Q q s H1 Cc cl fp => ((hg s H1 Cc cl fp).h H0).eg F0 G σ F H v x E hv Q q) (fun j hj => of_decide_eq_true (List.all_eq_true.mp hv j hj)) (fun F1 b x hx => ?_) (fun F1 b x hx hp => ?_) (fun F1 b x hx hp => ?_))
      · rw [hG]
        exact fun σ F H E Q q s H1 Cc cl fp => tr_noers rfl ((ht s H1 Cc cl fp x).h F1 H0) (h1 x hx).1 σ F H E Q q
      · rw [hG]
        obtain ⟨k, v, e1, e2, e3⟩ := h2 x hx hp
        rw [e3]
        exact fun σ F H E Q q s H1 Cc cl fp => dr_noer ((hk s H1 Cc cl fp x).h F1 H0) (a := k) (by rw [e1]; rfl) σ F H E Q q
      · rw [hG]
        obtain ⟨k, v, e1, e2, e3⟩ := h2 x hx hp
        rw [e3]
        exact fun σ F H E Q q s H1 Cc cl fp => dr_noer ((he s H1 Cc cl fp x).h F1 H0) (a := v) (by rw [e2]; rfl) σ F H E Q q⟩
/-- [elt for tg in it if .. for tg1 in it1 if ..] -/
theorem xlc2 {α γ β : Type} [Inhabited γ] [Inhabited β] {r : Rp α} {r1 : Rp γ} {r' : Rp β} [mo : Mo r'] {fx : R Er (List α)} {up : α → List Slot → List Slot} {up1 : γ → List Slot → List Slot} {tl tl1 : List Nat} {pf : α → R Er Bool} {gx : α → R Er (List γ)} {pf1 : α → γ → R Er Bool} {ff : α → γ → R Er β} (own : List (Str × Nat)) (vs1 : List Nat) (G' : α → List Slot) (G1 : α → γ → List Slot)
    (hi : XI C tg it G m r fx) (hg : ∀ s H Cc cl fp, XG (cnB C s H scope Cc cl fp) tg m r up tl) (hG : ∀ x, up x (wipeG G (own.map (·.2))) = G' x) (ht : ∀ s H Cc cl fp x, XQs (cnB C s H scope Cc cl fp) ifs (G' x) (pf x))
    (hi1 : ∀ s H Cc cl fp x, XI (cnB C s H scope Cc cl fp) tg1 it1 (G' x) m1 r1 (gx x)) (hg1 : ∀ s H Cc cl fp, XG (cnB C s H scope Cc cl fp) tg1 m1 r1 up1 tl1) (hG1 : ∀ x y, up1 y (wipeG (G' x) vs1) = G1 x y) (ht1 : ∀ s H Cc cl fp x y, XQs (cnB C s H scope Cc cl fp) ifs1 (G1 x y) (pf1 x y))
    (he : ∀ s H Cc cl fp x y, XE (cnB C s H scope Cc cl fp) elt (G1 x y) .sh r' (ff x y)) (hc : C.X.calm = true := by rfl) (hv : tl.all (fun j => decide (j ∈ own.map (·.2))) = true := by decide) (hv1 : tl1.all (fun j => decide (j ∈ vs1)) = true := by decide) (hv2 : vs1.all (fun j => decide (j ∈ own.map (·.2))) = true := by decide) (ok : blkC C.X.N C.X.env.scope scope own = true := by decide +kernel) (hs : ∀ x, foldedSetIterable it C.X.env x = pure x := by intro _; rfl) (hs1 : ∀ env x, foldedSetIterable it1 env x = pure x := by intro _ _; rfl) :
    XLc C (.ListComp elt [⟨tg, it, ifs, 0⟩, ⟨tg1, it1, ifs1, 0⟩] scope pos) G (fun xs => sL r' xs) (fx.bind fun xs => (R.mapR pf (fun x => (gx x).bind fun ys => (R.mapR (pf1 x) (ff x) ys : R Er (List β))) xs).bind fun zs => lenR zs.flatten) := by
  have a1 : ∀ (tg : Expr) (s : Shared) (H : Hp) (Cc : Addr) (cl : List (Str × Addr)) (fp : List Addr), PG (C.X.blk s H scope (compEnvC scope cl Cc C.X.env) fp) tg (bG C.X scope tg) := fun tg s H Cc cl fp => ⟨fun pins s' σ H' v u Q I r h => h s H Cc cl fp pins s' u I r⟩
  have a2 : ∀ (ifs : List Expr) (s : Shared) (H : Hp) (Cc : Addr) (cl : List (Str × Addr)) (fp : List Addr), PTs (C.X.blk s H scope (compEnvC scope cl Cc C.X.env) fp) ifs (bTs C.X scope ifs) := fun ifs s H Cc cl fp => ⟨fun pins s' σ H' Q I h => h s H Cc cl fp pins s' I⟩
  have a3 : ∀ (s : Shared) (H : Hp) (Cc : Addr) (cl : List (Str × Addr)) (fp : List Addr), PE (C.X.blk s H scope (compEnvC scope cl Cc C.X.env) fp) elt (bE C.X scope elt) := fun s H Cc cl fp => ⟨fun pins s' σ H' Q I h => h s H Cc cl fp pins s' I⟩
  have a4 : ∀ (s : Shared) (H : Hp) (Cc : Addr) (cl : List (Str × Addr)) (fp : List Addr), PI (C.X.blk s H scope (compEnvC scope cl Cc C.X.env) fp) tg1 it1 (bI C.X scope tg1 it1) := fun s H Cc cl fp => ⟨fun pins s' σ H' R I h => h s H Cc cl fp pins s' I⟩
  have av : ∀ i ∈ vs1, i ∈ own.map (·.2) := fun j hj => of_decide_eq_true (List.all_eq_true.mp hv2 j hj)
  refine ⟨tLc2 (tI C.X tg it) (bG C.X scope tg) (bTs C.X scope ifs) (bI C.X scope tg1 it1) (bG C.X scope tg1) (bTs C.X scope ifs1) (bE C.X scope elt) (own.map (·.2)) vs1, ⟨pe_lc2 hc C.nd pI (blkOk_by ok) av (a1 tg) (a2 ifs) a4 (a1 tg1) (a2 ifs1) a3 hs hs1, fun hy hyl hsw => ps_setLc2 hc C.nd hy hyl hsw pI (blkOk_by ok) av (a1 tg) (a2 ifs) a4 (a1 tg1) (a2 ifs1) a3 hs hs1⟩, fun F0 H0 => ?_⟩
  have hi := hi.h F0 H0
  cases fx with
  | no => trivial
  | er y => exact fun σ F H E w Q => hi σ F H E w _
  | ok xs =>
    show Ds C F0 H0 _ G _ ((R.mapR pf (fun x => (gx x).bind fun ys => (R.mapR (pf1 x) (ff x) ys : R Er (List β))) xs).bind fun zs => lenR zs.flatten)
    cases hm : (R.mapR pf (fun x => (gx x).bind fun ys => (R.mapR (pf1 x) (ff x) ys : R Er (List β))) xs : R Er (List (List β))) with
    | no => trivial
    | er y => exact absurd hm (mapR_ner xs)
    | ok zs =>
      obtain ⟨h1, rfl⟩ := R.map_okc hm
      refine ds_iff fun hlen => ?_
      have h2 : ∀ x ∈ xs, R.okB (pf x) = true → (∃ ys, gx x = .ok ys) ∧ R.okD ((gx x).bind fun ys => (R.mapR (pf1 x) (ff x) ys : R Er (List β))) = ((R.okD (gx x)).filter fun y => R.okB (pf1 x y)).map (fun y => R.okD (ff x y)) ∧ ∀ y ∈ R.okD (gx x), (pf1 x y).noer = (.ok (R.okB (pf1 x y)) : R Er Bool) ∧ (R.okB (pf1 x y) = true → (ff x y).noer = (.ok (R.okD (ff x y)) : R Er β)) := fun x hx hp => by
        have z := (h1 x hx).2 hp
        cases hk : gx x with
        | no => rw [hk] at z; cases z
        | er y => rw [hk] at z; cases z
        | ok ys =>
          rw [hk] at z
          simp only [R.ok_bind] at z ⊢
          cases hm2 : (R.mapR (pf1 x) (ff x) ys : R Er (List β)) with
          | no => rw [hm2] at z; cases z
          | er y => rw [hm2] at z; cases z
          | ok ws =>
            obtain ⟨k1, k2⟩ := R.map_okc hm2
            exact ⟨⟨ys, rfl⟩, k2, k1⟩
      have e : ((xs.filter fun x => R.okB (pf x)).map fun x => R.okD ((gx x).bind fun ys => (R.mapR (pf1 x) (ff x) ys : R Er (List β)))) = (xs.filter fun x => R.okB (pf x)).map fun x => ((R.okD (gx x)).filter fun y => R.okB (pf1 x y)).map (fun y => R.okD (ff x y)) :=
        List.map_congr_left fun x hx => (h2 x (List.mem_filter.mp hx).1 (List.mem_filter.mp hx).2).2.1
      rw [e] at hlen ⊢
      refine dv_en (en_lc2 (fun x => R.okB (pf x)) (fun x => R.okD (gx x)) (fun x y => R.okB (pf1 x y)) (fun x y => R.okD (ff x y)) hi (m := m) (r := r) (up := up) (tg := tl) (up1 := up1) (tg1 := tl1) (m1 := m1) (r1 := r1) (fun F0 G σ F H v x E hv Q q s H1 Cc cl fp => (hg s H1 Cc cl fp).h H0 F0 G σ F H v x E hv Q q) (fun j hj => of_decide_eq_true (List.all_eq_true.mp hv j hj)) (fun F1 b x hx => ?_) (fun F1 b x hx hp => ?_)
        (fun F0 G σ F H v x E hv Q q s H1 Cc cl fp => (hg1 s H1 Cc cl fp).h H0 F0 G σ F H v x E hv Q q) (fun j hj => of_decide_eq_true (List.all_eq_true.mp hv1 j hj)) (fun F1 b x hx hp y hy => ?_) (fun F1 b x hx hp y hy hp1 => ?_) hlen)
      · rw [hG]
        exact fun σ F H E Q q s H1 Cc cl fp => tr_noers rfl ((ht s H1 Cc cl fp x).h F1 H0) (h1 x hx).1 σ F H E Q q
      · rw [hG]
        obtain ⟨⟨ys, e1⟩, e2, e3⟩ := h2 x hx hp
        intro σ F H E Rr q s H1 Cc cl fp
        have z := (hi1 s H1 Cc cl fp x).h F1 H0
        rw [e1] at z
        refine z σ F H E Rr fun J F1 H1 g w hl => q J F1 H1 g ?_ ?_
        · rw [e1]; exact w
        · rw [e1]; exact hl
      · rw [hG, hG1]
        exact fun σ F H E Q q s H1 Cc cl fp => tr_noers rfl ((ht1 s H1 Cc cl fp x y).h F1 H0) ((h2 x hx hp).2.2 y hy).1 σ F H E Q q
      · rw [hG, hG1]
        exact fun σ F H E Q q s H1 Cc cl fp => dr_noer ((he s H1 Cc cl fp x y).h F1 H0) (((h2 x hx hp).2.2 y hy).2 hp1) σ F H E Q q
end
end LJ
set_option Elab.async false
set_option linter.all false
set_option maxRecDepth 100000
set_option maxHeartbeats 4000000
set_option autoImplicit false
namespace LKB
open PySem L2 PyProof.Rows PySem.Spec
section
variable {X : Cx} {CX : CXT} {k : Nat} {f C g p : Addr} {fd : FuncData} {ps : List Str} {sp : Sp} {dvs : List V} {ds : List Value} {E : L2.St → XK} {x m : Str} {p0 pos apos : Pos} {e o a b : Expr} {es : List Expr} {ta tb tv : TE} {t : TA}
/-- a call somewhere below -/
theorem code_in {A : Around} {pins : List (Addr × Obj)} {σ : L2.St} {H : Hp} {s : Shared} {Q : VK} {us : List Value} {vs : List V} (F : FnOk X.prog X.w X.K X.mg X.base CX k f fd ps sp) (hr : Room k A) (e0 : Env0 X.prog X.w X.K X.mg X.base A X.stack s H) (hb : Binds X.K fd ps ds) (hd : Vals dvs ds) (hx : PassesAt CX X σ (E σ))
    (I : Inv X pins σ H s) (r : Vals vs us) (h : sp (vs ++ dvs) H Q (E σ)) : codeAny (model X.prog X.w) A (.call (.ref f) ⟨us, []⟩) (wants (EP X pins σ Q) X.xe) s := by
  have r2 : Vals (vs ++ dvs) (us ++ ds) := r.append hd
  have hl : (us ++ ds).length = ps.length := by rw [← r2.length]; exact F.len _ _ _ _ h
  refine codeAny_mono (F.run A X.stack s H ⟨us, []⟩ (us ++ ds) (vs ++ dvs) Q (E σ) hr e0 (hb s us I.kIn hl) r2 h) fun r s' hq => ?_
  cases r with
  | error e => exact hx pins H s e s' I hq
  | ok fl =>
    cases fl with
    | ret u => exact I.after hq
    | next => exact False.elim hq
    | brk => exact False.elim hq
    | cont => exact False.elim hq
theorem run_in {A : Around} {pins : List (Addr × Obj)} {σ : L2.St} {H : Hp} {s : Shared} {Q : VK} {us : List Value} {vs : List V} (F : FnOk X.prog X.w X.K X.mg X.base CX k f fd ps sp) (hr : Room k A) (e0 : Env0 X.prog X.w X.K X.mg X.base A X.stack s H) (hb : Binds X.K fd ps ds) (hd : Vals dvs ds) (hx : PassesAt CX X σ (E σ))
    (I : Inv X pins σ H s) (r : Vals vs us) (h : sp (vs ++ dvs) H Q (E σ)) : wpAny (model X.prog X.w) A (call (.ref f) us) (EP X pins σ Q) X.xe s := wpAny_call (code_in F hr e0 hb hd hx I r h)
/-- C(..) -/
def tMakeS (C : Addr) (sp : Sp) (dvs : List V) (E : L2.St → XK) (t : TA) : TE := fun σ H Q => t σ H fun vs H1 => ∀ x dx, H1 x = none → H1 dx = none → dx ≠ x →
  sp (.ref x :: (vs ++ dvs)) (upd (upd H1 dx (.own x)) x (.ins C dx [])) (fun v H2 => v = .non ∧ Q (.ref x) H2) (E σ)
theorem run_makeS {pins : List (Addr × Obj)} {σ : L2.St} {H : Hp} {s : Shared} {Q : VK} {us : List Value} {vs : List V} (M : Mk X.K C f) (F : FnOk X.prog X.w X.K X.mg X.base CX k f fd ps sp) (hr : Room (k + 1) X.A) (hb : Binds X.K fd ps ds) (hd : Vals dvs ds)
    (hx : PassesAt CX X σ (E σ)) (I : Inv X pins σ H s) (r : Vals vs us)
    (h : ∀ x dx, H x = none → H dx = none → dx ≠ x → sp (.ref x :: (vs ++ dvs)) (upd (upd H dx (.own x)) x (.ins C dx [])) (fun v H2 => v = .non ∧ Q (.ref x) H2) (E σ)) :
    wpAny (model X.prog X.w) X.A (call (.ref C) us) (EP X pins σ Q) X.xe s := by
  have hq := h (s.heap.objs.size + 1) s.heap.objs.size (I.hok.fresh (Nat.le_succ _)) (I.hok.fresh (Nat.le_refl _)) (Nat.ne_of_lt (Nat.lt_succ_self _))
  have I2 := Inv.made (C := C) I
  have r2 : Vals (V.ref (s.heap.objs.size + 1) :: (vs ++ dvs)) (Value.ref (s.heap.objs.size + 1) :: (us ++ ds)) := .cons rfl (r.append hd)
  have hl : (Value.ref (s.heap.objs.size + 1) :: us ++ ds).length = ps.length := by
    have e := r2.length
    rw [F.len _ _ _ _ hq] at e
    exact e.symm
  refine wpAny_call (make_map (f := f) I.kIn M.makes M.init (beq_iff_eq.mp M.fn) (codeAny_mono (F.run _ X.stack _ _ ⟨Value.ref (s.heap.objs.size + 1) :: us, []⟩ (Value.ref (s.heap.objs.size + 1) :: (us ++ ds)) _ _ (E σ) (hr.make C us [])
    (I2.env0.make C us []) (hb _ (Value.ref (s.heap.objs.size + 1) :: us) I2.kIn hl) r2 hq) fun r s' hq' => ?_))
  cases r with
  | error e => exact hx pins _ _ e s' I2 hq'
  | ok fl =>
    cases fl with
    | ret u =>
      obtain ⟨v, H', I3, rv, ev, q3⟩ := I2.after hq'
      subst ev
      exact ⟨rv, ⟨V.ref (s.heap.objs.size + 1), H', I3, rfl, q3⟩⟩
    | next => exact False.elim hq'
    | brk => exact False.elim hq'
    | cont => exact False.elim hq'
theorem pe_makeS (M : Mk X.K C f) (F : FnOk X.prog X.w X.K X.mg X.base CX k f fd ps sp) (hr : Room (k + 1) X.A) (hg : Gl X x) (hm : X.mg x = some (.ref C)) (hb : Binds X.K fd ps ds) (hd : Vals dvs ds) (hx : ∀ σ, PassesAt CX X σ (E σ))
    (ha : PA X (e :: es) t) (hdb : (x == ("__debug__" : Str)) = false := by decide) (he : starEach (e :: es) X.env = (false, eval e X.env) :: starEach es X.env := by rfl) (hpl : (backTo pos (starEach es X.env)).any (·.1) = false := by rfl) :
    PE X (.Call (.Name x p0) (e :: es) [] pos) (tMakeS C sp dvs E t) := by
  refine ⟨fun pins s σ H Q I h => ?_⟩
  refine wpAny_Call_Name_kw (ld_glob I hg hm ?_ hdb)
  refine PySem.W.callWith_K (h₀ := X.base) I.ok.mod.kin M.kp (thn (ha.run pos pins s σ H _ I h) fun us s1 ⟨vs, H1, I1, r, q⟩ => ⟨I1.kIn, ?_⟩) he hpl
  exact run_makeS M F hr hb hd (hx σ) I1 r q
structure OwnM (K : PySem.W.Frag) (C f : Addr) (name : Str) : Prop where
  at_ : PySem.W.findIn K (.ref C) name = some (some (.ref f))
  fn : PySem.W.isFn K (.ref f) = true
/-- two operands, the first is the object -/
def tOwn2 (C : Addr) (sp : Sp) (E : L2.St → XK) (ta tb : TE) : TE := fun σ H Q => ta σ H fun x H1 => tb σ H1 fun y H2 => ∃ a dx fs, x = .ref a ∧ H2 a = some (.ins C dx fs) ∧ sp [x, y] H2 Q (E σ)
/-- a[b] -/
theorem pe_ownGet (ha : PE X a ta) (hb' : PE X b tb) (O : OwnM X.K C f "__getitem__") (hf : PySem.W.fnIn X.K f = true) (F : FnOk X.prog X.w X.K X.mg X.base CX k f fd ps sp) (hr : Room (k + 1) X.A) (hb : Binds X.K fd ps []) (hx : ∀ σ, PassesAt CX X σ (E σ))
    (hsl : ∀ x i, subscripted b true x i = runValue (.builtin "lifetime.subscript" ⟨[x, i], []⟩)) : PE X (.Subscript a b pos) (tOwn2 C sp E ta tb) := by
  refine ⟨fun pins s σ H Q I h => ?_⟩
  refine Subscript_ (thn (ha.run pins s σ H _ I h) fun v s1 ⟨x, H1, I1, rx, q1⟩ => thn (hb'.run pins s1 σ H1 _ I1 q1) fun u s2 ⟨y, H2, I2, ry, a', dx, fs, ex, ea, q⟩ => ?_)
  subst ex
  obtain rfl : v = Value.ref a' := rx
  obtain ⟨mA, J, _⟩ := ins_get I2.hok ea
  obtain ⟨od, J, _⟩ := J.look
  obtain ⟨m, hF⟩ := I2.fr
  refine PySem.W.sub_K hF I2.ok.mod.kin J O.at_ hf O.fn ?_ (hsl _ _)
  exact run_in (us := [.ref a', u]) (vs := [.ref a', y]) (dvs := []) (ds := []) F hr.in1 I2.env0.in1 hb .nil (hx σ) I2 (.cons rfl (.cons ry .nil)) q
/-- e.f, a property -/
def tPropS (C : Addr) (sp : Sp) (E : L2.St → XK) (ta : TE) : TE := fun σ H Q => ta σ H fun x H1 => ∃ a dx fs, x = .ref a ∧ H1 a = some (.ins C dx fs) ∧ sp [.ref a] H1 Q (E σ)
theorem pe_propS {f : Str} (he : PE X e ta) (c : Cls X.K C) (hp : PropOf X.K C f p g) (F : FnOk X.prog X.w X.K X.mg X.base CX k g fd ps sp) (hr : Room (k + 1) X.A) (hb : Binds X.K fd ps []) (hx : ∀ σ, PassesAt CX X.nox σ (E σ))
    (hab : attributeBase e f X.env (eval e X.env) = eval e X.env) : PE X (.Attribute e f pos) (tPropS C sp E ta) := by
  refine ⟨fun pins s σ H Q I h => ?_⟩
  refine attr_of hab (thn (he.run pins s σ H _ I h) fun u s1 ⟨x, H1, I1, rx, a, dx, fs, ex, ea, q⟩ => ?_)
  subst ex
  obtain rfl : u = Value.ref a := rx
  obtain ⟨mA, O, _, _, _, _⟩ := ins_get I1.hok ea
  obtain ⟨od, J, _⟩ := O.look
  obtain ⟨rest, hrec⟩ := hp.rec_
  have I2 := I1.tok (s1.toks + 1)
  have hc : (PySem.W.clsIn X.K C).isSome = true := by
    obtain ⟨cd, hc, _⟩ := PySem.W.any_some c.hd
    rw [hc]
    rfl
  have hl : ([Value.ref a] ++ []).length = ps.length := by
    rw [← F.len _ _ _ _ q]; rfl
  refine PySem.W.get_bind I1.kIn J (PySem.W.plainGet_of (c.get f)).1 (PySem.W.findObj_data hc hp.at_ hp.get hp.tak) (PySem.W.plainGet_of (c.get f)).2 (wpAny_call (PySem.W.prop_get (s := { s1 with toks := s1.toks + 1 }) I1.kIn hrec ?_))
  refine codeAny_mono (F.run X.A.in1 X.stack { s1 with toks := s1.toks + 1 } H1 ⟨[.ref a], []⟩ [.ref a] [.ref a] Q (E σ) hr.in1 I2.env0.in1 (hb _ [.ref a] I2.kIn hl) (.cons rfl .nil) q) fun r s' hq => ?_
  cases r with
  | error er => exact False.elim (hx σ pins H1 { s1 with toks := s1.toks + 1 } er s' (I2.wish _) hq)
  | ok fl =>
    cases fl with
    | ret u =>
      obtain ⟨v, H', I3, rv, q3⟩ := I2.after hq
      show wpAny _ _ (handedOut u) _ _ _
      rw [PySem.W.handedOut_of (handed_of rv)]
      exact wpAny_pure ⟨v, H', I3, rv, q3⟩
    | next => exact False.elim hq
    | brk => exact False.elim hq
    | cont => exact False.elim hq
end
section
open ClX
end
end LKB
set_option Elab.async false
set_option linter.all false
set_option maxRecDepth 100000
set_option maxHeartbeats 4000000
set_option autoImplicit false
namespace LK
open PySem L2 PyProof.Rows
section
end
/-- all but the addresses of S -/
def cut (S : List Addr) (H : Hp) : Hp := fun a => if a ∈ S then none else H a
theorem cut_in {S : List Addr} {H : Hp} {a : Addr} (h : a ∈ S) : cut S H a = none := if_pos h
theorem cut_out {S : List Addr} {H : Hp} {a : Addr} (h : a ∉ S) : cut S H a = H a := if_neg h
theorem cut_le {S : List Addr} {H : Hp} : Ex (cut S H) H := fun a o e => by
  by_cases h : a ∈ S
  · rw [cut_in h] at e; cases e
  · rw [cut_out h] at e; exact e
theorem le_cut {S : List Addr} {F H : Hp} (e : Ex F H) (h : ∀ a ∈ S, F a = none) : Ex F (cut S H) := fun a o q => by
  rw [cut_out fun z => by rw [h a z] at q; cases q]; exact e a o q
/-- a class as a datum -/
def rCl (C : Addr) : Rp Unit := fun _ v _ => v = .ref C
instance (C : Addr) : Fl (rCl C) := ⟨fun h => h⟩
/-- an instance with one field -/
def rI1 {α : Type} (C : Addr) (f : Str) (r : Rp α) : Rp α := fun F v a => ∃ p dx u, v = .ref p ∧ F p = some (.ins C dx [(f, u)]) ∧ r F u a
instance {α : Type} (C : Addr) (f : Str) (r : Rp α) [h : Mo r] : Mo (rI1 C f r) := ⟨fun e ⟨p, dx, u, h1, h2, h3⟩ => ⟨p, dx, u, h1, e.at_ h2 rfl, h.mo e h3⟩⟩
instance {α : Type} (C : Addr) (f : Str) (r : Rp α) : Nn (rI1 C f r) := ⟨fun ⟨_, _, _, h, _⟩ => by rw [h]; intro z; cases z⟩
/-- .. that may be told by its address -/
class Pin {δ : Type} (mu : Option Addr → δ → Mu) : Prop where
  pin : ∀ {q : Addr} {d : δ} {F H : Hp} {p : Addr} {S : List Addr}, mu (some q) d F H p S → p = q
  un : ∀ {o : Option Addr} {d : δ} {F H : Hp} {p : Addr} {S : List Addr}, mu o d F H p S → mu none d F H p S
  to : ∀ {d : δ} {F H : Hp} {p : Addr} {S : List Addr}, mu none d F H p S → mu (some p) d F H p S
  mo : ∀ (o : Option Addr) (d : δ), MoM (mu o d)
/-- an instance without fields -/
def m0 (C : Addr) (o : Option Addr) (_ : Unit) : Mu := fun F H p S => (∀ q, o = some q → p = q) ∧ ∃ dx, S = [p, dx] ∧ H p = some (.ins C dx []) ∧ H dx = some (.own p)
/-- an instance whose one field is a list of its own -/
def mB {α : Type} (C : Addr) (f : Str) (r : Rp α) (o : Option Addr) (xs : List α) : Mu := fun F H p S => (∀ q, o = some q → p = q) ∧ ∃ dx q vs, S = [p, dx, q] ∧ H p = some (.ins C dx [(f, .ref q)]) ∧ H dx = some (.own p) ∧ H q = some (.lst vs) ∧ xs.length ≤ 16777216 ∧ Paired (r F) vs xs
instance (C : Addr) (o : Option Addr) (u : Unit) : MoM (m0 C o u) := ⟨fun {F F' H H' p S} e k ⟨h0, dx, h1, h2, h3⟩ => by
    subst h1
    exact ⟨h0, dx, rfl, by rw [k p (by simp)]; exact h2, by rw [k dx (by simp)]; exact h3⟩, fun {F H p S} ⟨h0, dx, h1, h2, h3⟩ a ha => by
    subst h1
    rcases List.mem_cons.mp ha with e | ha
    · rw [e, h2]; exact fun z => nomatch z
    · rw [List.mem_singleton.mp ha, h3]; exact (fun z => nomatch z), fun {F H p S} ⟨h0, dx, h1, h2, h3⟩ a ha o eo => by
    subst h1
    rcases List.mem_cons.mp ha with e | ha
    · rw [e, h2] at eo; cases eo; rfl
    · rw [List.mem_singleton.mp ha, h3] at eo; cases eo; rfl⟩
instance {α : Type} (C : Addr) (f : Str) (r : Rp α) [mo : Mo r] (o : Option Addr) (xs : List α) : MoM (mB C f r o xs) := ⟨fun {F F' H H' p S} e k ⟨h0, dx, q, vs, h1, h2, h3, h4, h5, h6⟩ => by
    subst h1
    exact ⟨h0, dx, q, vs, rfl, by rw [k p (by simp)]; exact h2, by rw [k dx (by simp)]; exact h3, by rw [k q (by simp)]; exact h4, h5, pmap (fun _ _ z => mo.mo e z) h6⟩, fun {F H p S} ⟨h0, dx, q, vs, h1, h2, h3, h4, _⟩ a ha => by
    subst h1
    rcases List.mem_cons.mp ha with e | ha
    · rw [e, h2]; exact fun z => nomatch z
    · rcases List.mem_cons.mp ha with e | ha
      · rw [e, h3]; exact fun z => nomatch z
      · rw [List.mem_singleton.mp ha, h4]; exact (fun z => nomatch z), fun {F H p S} ⟨h0, dx, q, vs, h1, h2, h3, h4, _⟩ a ha o eo => by
    subst h1
    rcases List.mem_cons.mp ha with e | ha
    · rw [e, h2] at eo; cases eo; rfl
    · rcases List.mem_cons.mp ha with e | ha
      · rw [e, h3] at eo; cases eo; rfl
      · rw [List.mem_singleton.mp ha, h4] at eo; cases eo; rfl⟩
instance (C : Addr) : Pin (m0 C) := ⟨fun h => h.1 _ rfl, fun h => ⟨fun _ z => (nomatch z), h.2⟩, fun h => ⟨fun _ z => Option.some.inj z, h.2⟩, fun _ _ => inferInstance⟩
instance {α : Type} (C : Addr) (f : Str) (r : Rp α) [Mo r] : Pin (mB C f r) := ⟨fun h => h.1 _ rfl, fun h => ⟨fun _ z => (nomatch z), h.2⟩, fun h => ⟨fun _ z => Option.some.inj z, h.2⟩, fun _ _ => inferInstance⟩
instance {α : Type} (C : Addr) (f : Str) (r : Rp α) [Mo r] (o : Option Addr) : LJ.Fzz (mB C f r o) (rI1 C f (rLst r)) := ⟨fun {F F' H p S a} ⟨_, dx, q, vs, h1, h2, h3, h4, h5, h6⟩ hp ee => by
  subst h1
  exact ⟨p, dx, _, rfl, by rw [hp p (by simp)]; exact h2, q, vs, rfl, by rw [hp q (by simp)]; exact h4, h5, pmap (fun _ _ z => mox ee z) h6⟩⟩
/-- a list or a tuple, new or of the text -/
def rSq {α : Type} (K : PySem.W.Frag) (r : Rp α) : Rp (List α) := fun F v xs => ∃ p vs, v = .ref p ∧ (SqL K F p vs ∨ SqT K F p vs) ∧ xs.length ≤ 16777216 ∧ Paired (r F) vs xs
end LK
namespace LJ
open PySem L2 LK LKX LKB PyProof.Rows PySem.Spec
section
variable {C : Cn} {G : List LK.Slot} {m : Md} {a e : Expr} {pos p1 : Pos} {x f : Str}
/-- an own thing, read -/
theorem xvm {α : Type} {mu : α → Mu} {r : Rp α} [fz : Fzz mu r] {d : α} {iM : MoM (mu d)} (i : Nat) (h : G[i]? = some (.ow (mu d) iM) := by rfl) (hN : C.X.N[i]? = some x := by rfl) (hv : Vis C.X.env.scope x := by first | exact Or.inl rfl | exact Or.inr (Or.inl rfl) | exact Or.inr (Or.inr rfl)) (hd : (x == ("__debug__" : Str)) = false := by decide)
    (hcd : (x == ("__classdict__" : Str)) = false := by decide) : XE C (.Name x pos) G .bo r (.ok d) := ⟨fun F0 H0 σ F H E Q q => tE_le (pe_var hN hv hd hcd) (by
  obtain ⟨p, S, hx, hS, hm⟩ := E.ow_at h
  exact ⟨_, hx, q _ F H (Gr.refl E.gr.fh) (fz.fz hm (fun _ _ => rfl) E.gr.fh)⟩)⟩
/-- e.f -/
theorem xfld {α : Type} {C0 : Addr} {r : Rp α} {g : R Er α} (he : XE C e G m (rI1 C0 f r) g) (c : Cls C.X.K C0) (n : NoAttr C.X.K C0 f) (hb : attributeBase e f C.X.env (eval e C.X.env) = eval e C.X.env := by rfl) : XE C (.Attribute e f pos) G m r g := ⟨fun F0 H0 => by
  have h := he.h F0 H0
  refine Dr.le (t := tFld C.X.K (tE C.X e) f) ?_ fun _ _ _ q => tE_le (pe_fld pE hb) q
  cases g with
  | no => trivial
  | er y => exact fun σ F H E w Q => h σ F H E w _
  | ok a =>
    exact fun σ F H E Q q => h σ F H E _ fun v F1 H1 g1 h1 => by
      obtain ⟨p, dx, u, rfl, h2, h3⟩ := h1
      exact ⟨p, C0, dx, _, u, rfl, pk_now (E.gr.trans g1) _ _ h2, c, n, by simp [List.lookup], q u F1 H1 g1 h3⟩⟩
end
section
variable {C : Cn} {β ρ ε Z S' : Type} {J : Jn β ρ ε Z} {G : List LK.Slot} {slk : S' → List LK.Slot} {e ie : Expr} {rest : List Stmt} {pos p1 p2 p3 : Pos} {x f : Str} {m : Md}
/-- self.f = a new list: the first field -/
theorem xb_init1 {α : Type} {C0 : Addr} {o : Option Addr} {r : Rp α} [mo : Mo r] {g : R Er (List α)} {im : MoM (m0 C0 o ())} {M : List α → (S' → R ε ρ) → R ε ρ} (i : Nat) (G' : List α → List LK.Slot) (z : Z) (hz : Lw G (J.slz z)) (hi : G[i]? = some (.ow (m0 C0 o ()) im)) (he : XN C e G (fun xs => sL r xs) g) (c : Cls C.X.K C0) (n : NoAttr C.X.K C0 f)
    (hG : ∀ xs, G.set i (sO (mB C0 f r o xs)) = G' xs) (hr : ∀ xs, XB C J rest (G' xs) slk (M xs))
    (hN : C.X.N[i]? = some x := by rfl) (hv : Vis C.X.env.scope x := by first | exact Or.inl rfl | exact Or.inr (Or.inl rfl) | exact Or.inr (Or.inr rfl)) (hd : (x == ("__debug__" : Str)) = false := by decide) (hcd : (x == ("__classdict__" : Str)) = false := by decide)
    (hsw : swapsWith e (some (.Attribute (.Name x p1) f p2)) pos.line C.X.env = pure false := by rfl) :
    XB C J (.Assign [.Attribute (.Name x p1) f p2] e pos :: rest) G slk (fun k => g.thn (fun y => J.em y z) fun xs => M xs k) := ⟨fun F0 H0 A D an k hk hA σ F H E => by
  have he := he.h F0 H0
  refine tS_le (pss_cons (ps_fld (pe_var hN hv hd hcd) pE hsw) pS) ?_
  cases g with
  | no => exact (an.no hA).elim
  | er y => exact he σ F H E (an.air hz hA E) _
  | ok xs =>
    refine he σ F H E _ fun v F1 H1 g1 E1 => ?_
    obtain ⟨p, S, hx, hS, h0, dx, hS', h2, h3⟩ := E.ow_at hi
    obtain ⟨q, vs, hq, n1, n2, h4, h5, h6⟩ := E1.lst_at (i := 0) rfl
    cases Option.some.inj (Option.some.inj hq)
    subst hS'
    refine ⟨_, hx, p, C0, dx, [], rfl, g1.hh _ _ h2, c, n, by simp, (hr xs).h F0 H0 A D an k hk hA σ F1 _ ?_⟩
    rw [← hG xs]
    refine E.mut hi (p := p) (S := []) (S' := []) fun p' S'' hx' hS'' hm => ?_
    rw [hx] at hx'
    cases Option.some.inj (Option.some.inj hx')
    obtain ⟨_, dx', hS3, h2', h3'⟩ := hm
    subst hS3
    rw [h2] at h2'
    cases h2'
    have hp1 : F1 p = none := by
      exact g1.fr (hS'' p (by simp)).1 h2 rfl
    have hd1 : F1 dx = none := by
      exact g1.fr (hS'' dx (by simp)).1 h3' rfl
    have qp : q ≠ p := fun z => by rw [z, h2] at n2; cases n2
    have dp : dx ≠ p := fun z => by rw [z, h2] at h3'; cases h3'
    refine ⟨[p, dx, q], g1.ff, g1.nw, fun a ha hb hc => ?_, fun a u w => ?_, fun a ha => ?_, ?_⟩
    · have hap : a ≠ p := fun z => ha (by simp [z])
      rw [upd_ne hap]
      cases w : H a with
      | none => exact absurd w hc
      | some u => exact g1.hh a u w
    · have hap : a ≠ p := fun z => by rw [z, hp1] at w; cases w
      rw [upd_ne hap]; exact g1.fh a u w
    · rcases List.mem_cons.mp ha with w | ha
      · subst w; exact ⟨.inl (by simp), hp1⟩
      · rcases List.mem_cons.mp ha with w | ha
        · subst w; exact ⟨.inl (by simp), hd1⟩
        · have w := List.mem_singleton.mp ha
          subst w; exact ⟨.inr n2, n1⟩
    · exact ⟨h0, dx, q, vs, rfl, upd_same, by rw [upd_ne dp]; exact g1.hh _ _ h3', by rw [upd_ne qp]; exact h4, h5, h6⟩⟩
end
end LJ
set_option Elab.async false
set_option linter.all false
set_option maxRecDepth 100000
set_option maxHeartbeats 4000000
set_option autoImplicit false
namespace LJ
open PySem L2 LK LKX LKB PyProof.Rows PySem.Spec
/-- the promise: su: what the first argument is; sv, se: behind the call, behind an error -/
def spM {γ α δ ζ : Type} (T : XT) (su : Option Addr → γ → Mu) (P : Pt α) (f : γ → α → R (Er × ζ) δ) (sv : Option Addr → δ → LK.Slot) (se : Option Addr → ζ → LK.Slot) : Sp := fun vs H Q E =>
  ∃ F p S g a ws, vs = .ref p :: ws ∧ Ex F H ∧ su none g F H p S ∧ (∀ b ∈ S, F b = none) ∧ P.ra F (cut S H) (cut S H) ws a ∧ f g a ≠ .no ∧
  (∀ d, f g a = .ok d → ∀ x F' H', EnvOk F (cut S H) [sv (some p) d] [x] F' H' → Q .non H') ∧
  (∀ er z, f g a = .er (er, z) → ∀ cls dd x F' H', EnvOk F (cut S H) [se (some p) z] [x] F' H' → rEr T F' cls dd er → E cls dd H')
theorem spM_len {γ α δ ζ : Type} {T : XT} {su : Option Addr → γ → Mu} {P : Pt α} {f : γ → α → R (Er × ζ) δ} {sv : Option Addr → δ → LK.Slot} {se : Option Addr → ζ → LK.Slot} {vs : List V} {H : Hp} {Q : VK} {E : XK} (h : spM T su P f sv se vs H Q E) : vs.length = P.count + 1 := by
  obtain ⟨F, p, S, g, a, ws, e, _, _, _, h, _⟩ := h
  rw [e, List.length_cons, P.length h]
abbrev jnM {δ ζ : Type} (n : Nat) (se : ζ → LK.Slot) : Jn Empty δ (Er × ζ) ζ := ⟨fun b => b.elim, fun b _ => b.elim, fun z => se z :: List.replicate n .no, fun e z => (e, z)⟩
theorem entryM {α : Type} {T : Pt α} {F H : Hp} {ws : List V} {a : α} {N : List Str} {x : Str} {M : Mu} {im : MoM M} {p : Addr} {S : List Addr} (e : Ex F H) (hm : M F H p S) (hS : ∀ b ∈ S, F b = none) (h : T.ra F (cut S H) (cut S H) ws a) (c : Nat) (hc : N.length = T.count + c) :
    EnvOk F (cut S H) (.ow M im :: (T.slots a ++ List.replicate c .no)) (L2.start (x :: N) (.ref p :: ws)) F H := by
  have hl : ws.length = T.count := T.length h
  have E := entry (le_cut e hS) h c hc
  have g : Gr F (cut S H) F H := ⟨Ex.refl F, e, cut_le, fun a o h1 h2 => by rw [h1] at h2; cases h2⟩
  have E2 := E.pushO (im := im) (S := S) g (fun a ha => ⟨cut_in ha, hS a ha⟩) hm
  have es : L2.start (x :: N) (.ref p :: ws) = some (.ref p) :: L2.start N ws := by
    unfold L2.start
    simp
  rw [es]; exact E2
section
end
section
variable {C : Cn} {G : List LK.Slot} {m : Md} {e : Expr} {es : List Expr} {pos p0 : Pos} {x : Str}
theorem spM_make {α δ ζ : Type} {T : XT} {C0 : Addr} {P : Pt α} {fn : Unit → α → R (Er × ζ) δ} {mv : Option Addr → δ → Mu} [pn : Pin mv] {se : Option Addr → ζ → LK.Slot} {F H : Hp} {ws : List V} {a : α} {Q : VK} {E : XK} (ef : Ex F H) (ha : P.ra F H H ws a) (hno : fn () a ≠ .no)
    (q1 : ∀ d, fn () a = .ok d → ∀ p F' H', EnvOk F H [.ow (mv none d) (pn.mo _ _)] [some (.ref p)] F' H' → Q (.ref p) H') (q2 : ∀ er z, fn () a = .er (er, z) → ErK T F H E er) :
    ∀ x dx, H x = none → H dx = none → dx ≠ x → spM T (m0 C0) P fn (fun o d => .ow (mv o d) (pn.mo o d)) se (.ref x :: ws) (upd (upd H dx (.own x)) x (.ins C0 dx [])) (fun v H2 => v = .non ∧ Q (.ref x) H2) E := fun x dx hx hdx ne => by
  have hc : cut [x, dx] (upd (upd H dx (.own x)) x (.ins C0 dx [])) = H := by
    funext b
    by_cases h1 : b = x
    · subst h1; rw [cut_in (by simp), hx]
    · by_cases h2 : b = dx
      · subst h2; rw [cut_in (by simp), hdx]
      · rw [cut_out (by simp [h1, h2]), upd_ne h1, upd_ne h2]
  refine ⟨F, x, [x, dx], (), a, ws, rfl, (ef.trans (Ex.new hdx)).trans (Ex.new (by rw [upd_ne (Ne.symm ne)]; exact hx)), ⟨fun _ z => (nomatch z), dx, rfl, upd_same, by rw [upd_ne ne, upd_same]⟩, fun b hb => ?_, by rw [hc]; exact ha, hno, fun d hd y F' H' EE => ?_, fun er z he cls dd y F' H' EE r => ?_⟩
  · rcases List.mem_cons.mp hb with h | h
    · rw [h]; exact ef.back hx
    · rw [List.mem_singleton.mp h]; exact ef.back hdx
  · rw [hc] at EE
    refine ⟨rfl, q1 d hd x F' H' ?_⟩
    obtain ⟨fp, E1⟩ := EE
    obtain ⟨z, hz, q, hq, h1, h2⟩ := E1.at_ 0 _ rfl
    have eq := pn.pin h2
    subst eq
    exact env1o (S := fp 0) ef E1.gr (fun b hb => ⟨(h1 b hb).2, (h1 b hb).1⟩) (pn.un h2)
  · rw [hc] at EE
    exact q2 er z he cls dd F' H' EE.gr r
def mkR {ζ δ : Type} : R (Er × ζ) δ → R Er δ
  | .ok d => .ok d
  | .er e => .er e.1
  | .no => .no
/-- C(e, ..): a new instance of its own -/
theorem xmake {α δ ζ : Type} {C0 : Addr} {P : Pt α} {fn : Unit → α → R (Er × ζ) δ} {mv : Option Addr → δ → Mu} [pn : Pin mv] {se : Option Addr → ζ → LK.Slot} {k n : Nat} {f : Addr} {fd : FuncData} {ps : List Str} {dvs : List V} {ds : List Value} {β : Type} {P1 : Pt β} {g1 : R Er β} {ad : β → α} (Mk0 : Mk C.X.K C0 f) (gm : C.X.mg x = some (.ref C0)) (hb : Binds C.X.K fd ps ds) (hd : Vals dvs ds)
    (Fo : FnOk C.X.prog C.X.w C.X.K C.X.mg C.X.base (L2.CX C.X.prog C.X.w) k f fd ps (spM C.T (m0 C0) P fn (fun o d => .ow (mv o d) (pn.mo o d)) se)) (hr : Room n C.X.A) (ha : XA C (e :: es) G P1 g1) (had : ∀ F H0 H vs b, P1.ra F H0 H vs b → P.ra F H0 H (vs ++ dvs) (ad b)) (hk : k + 1 ≤ n := by decide) (hg : Gl C.X x := by rfl) (hdb : (x == ("__debug__" : Str)) = false := by decide)
    (he : starEach (e :: es) C.X.env = (false, eval e C.X.env) :: starEach es C.X.env := by exact star_cons rfl) (hpl : (backTo pos (starEach es C.X.env)).any (·.1) = false := by rfl) : XN C (.Call (.Name x p0) (e :: es) [] pos) G (fun d => .ow (mv none d) (pn.mo none d)) (g1.bind fun b => mkR (fn () (ad b))) := ⟨fun F0 H0 => by
  have ha := ha.h F0 H0
  refine Ds.le (t := tMakeS C0 (spM C.T (m0 C0) P fn (fun o d => .ow (mv o d) (pn.mo o d)) se) dvs (WE C.W) (tA C.X (e :: es))) ?_ fun _ _ _ q => tE_le (pe_makeS Mk0 Fo (hr.mono hk) hg gm hb hd (fun σ => passAt C.tk σ) pA hdb he hpl) q
  cases g1 with
  | no => trivial
  | er y => exact fun σ F H E w Q => ha σ F H E w _
  | ok b =>
    show Ds C F0 H0 _ G _ (mkR (fn () (ad b)))
    cases hf : fn () (ad b) with
    | no => trivial
    | er y =>
      exact fun σ F H E w Q => ha σ F H E _ fun vs F1 H1 g1 h1 => spM_make g1.fh (had _ _ _ _ _ (Pt.now P1 (E.gr.trans g1) h1)) (by rw [hf]; exact fun z => nomatch z) (fun d hd => by rw [hf] at hd; cases hd) (fun er z he cls dd F2 H2 g2 r => by
        rw [hf] at he; cases he
        exact w F2 H2 cls dd (g1.trans g2) r)
    | ok d =>
      exact fun σ F H E Q q => ha σ F H E _ fun vs F1 H1 g1 h1 => spM_make g1.fh (had _ _ _ _ _ (Pt.now P1 (E.gr.trans g1) h1)) (by rw [hf]; exact fun z => nomatch z) (fun d' hd p F2 H2 E2 => by
        rw [hf] at hd; cases hd
        exact q _ F2 H2 (g1.trans E2.gr) (envRebase g1 E2 trivial)) (fun er z he => by rw [hf] at he; cases he)⟩
end
section
end
end LJ
set_option Elab.async false
set_option linter.all false
set_option maxRecDepth 100000
set_option maxHeartbeats 4000000
set_option autoImplicit false
namespace LKB
open PySem L2 PyProof.Rows PySem.Spec
/-- a sign, repeated -/
def rRepS : R2 := fun x y H Q => ∃ (c : Nat) (n : Int), x = .str ⟨#[c]⟩ ∧ y = .int n ∧ 0 ≤ n ∧ n ≤ 1000000 ∧ Q (.str ⟨(List.replicate n.toNat c).toArray⟩) H
theorem fold_rep (c : Nat) : ∀ (k : Nat) (a : Array Nat), (List.replicate k #[c]).foldl (· ++ ·) a = a ++ (List.replicate k c).toArray
  | 0, a => by simp
  | k + 1, a => by
    rw [List.replicate_succ, List.foldl_cons, fold_rep c k]
    rw [List.replicate_succ]
    apply Array.ext'
    simp
theorem op_repS {X : Cx} : OpR X (binaryOp .Mult) rRepS := by
  intro pins s σ H x y v u Q I rx ry h
  obtain ⟨c, n, rfl, rfl, h0, h1, q⟩ := h
  obtain ⟨t, rfl⟩ := rx
  obtain ⟨t', rfl⟩ := ry
  have hl1 : (⟨#[c]⟩ : Str).length = 1 := rfl
  refine P.mul_str (by
    have a : ¬ n < -(2 ^ 63 : Int) := by omega
    have b : ¬ n ≥ 2 ^ 63 := by omega
    rw [decide_eq_false a, decide_eq_false b]; rfl) (fun hn hc => ?_) (fun hn hc => ?_) ?_
  · rw [hl1]
    intro z
    have : (1 : Int) ≤ 9223372036854775807 / n := (Int.le_ediv_iff_mul_le (by omega)).mpr (by omega)
    simp at z
    omega
  · rw [hl1]
    show decide ((1 * n.toNat) > sizeLine) = false
    refine decide_eq_false fun z => ?_
    have : sizeLine = 16777216 := sizeLine_eq
    omega
  · have fin : ∀ (z : Str) (t : Tok) (k : Nat), z = ⟨(List.replicate n.toNat c).toArray⟩ → EP X pins σ Q (.str z t) { s with toks := k } := fun z t k e => ⟨.str z, H, I.tok _, ⟨t, rfl⟩, by rw [e]; exact q⟩
    by_cases hn : n < 1
    · rw [if_pos hn]
      have e : n = 0 := by omega
      subst e
      exact ⟨by decide, fin _ _ _ rfl⟩
    · rw [if_neg hn]
      refine post_val_or_made (fun hc => ?_) fun t' k => ?_
      · have hz : ((List.replicate n.toNat (⟨#[c]⟩ : Str).cps).foldl (· ++ ·) #[]).size ≤ 1000000 := by
          show ((List.replicate n.toNat #[c]).foldl (· ++ ·) #[]).size ≤ _
          rw [fold_rep]; simp; omega
        exact Nat.le_trans hz (by decide)
      · refine fin _ _ _ ?_
        split
        · rename_i hh
          have e : n = 1 := by
            rw [hl1] at hh
            simpa using hh
          subst e; rfl
        · show (⟨(List.replicate n.toNat #[c]).foldl (· ++ ·) #[]⟩ : Str) = _
          rw [fold_rep]; simp
end LKB
namespace LJ
open PySem L2 LK LKX LKB ClX PyProof.Rows PySem.Spec
section
variable {C : Cn} {G : List LK.Slot} {m m1 m2 : Md} {a b e o : Expr} {es : List Expr} {pos apos p : Pos} {x mn : Str}
/-- '.' * n -/
def repR (x : List Nat) (n : Int) : R Er (List Nat) := match x with
  | [c] => R.iff (0 ≤ n ∧ n ≤ 1000000) (.ok (List.replicate n.toNat c))
  | _ => .no
theorem xrep {f : R Er (List Nat)} {g : R Er Int} (ha : XE C a G m1 rTx f) (hb : XE C b G m2 rInt g) : XE C (.BinOp a .Mult b pos) G .sh rTx (f.bind fun x => g.bind fun y => repR x y) := x2 ha hb (pe_op op_repS pE pE) fun F0 H0 x y h1 h2 => by
  unfold repR
  match x with
  | [] => trivial
  | _ :: _ :: _ => trivial
  | [c] =>
    refine dr_iff fun hc => LK.ed_bin h1 h2 fun v w F H g0 hv hw Q q => ⟨c, y, hv.1, hw, hc.1, hc.2, q _ F H (Gr.refl g0.fh) ⟨rfl, by simp; omega, fun d hd => ?_⟩⟩
    rw [(List.mem_replicate.mp hd).2]
    exact hv.2.2 c (by simp)
theorem ea2 {α β : Type} {rx : Rp α} {ry : Rp β} [ix : Mo rx] [iy : Mo ry] {F0 H0 : Hp} {ta tb : TE} {x : α} {y : β} (h1 : Ed F0 H0 ta G m1 rx x) (h2 : Ed F0 H0 tb G m2 ry y) {σ : L2.St} {F H : Hp} (E : EnvOk F0 H0 G σ F H) {Q : V → V → Hp → Prop}
    (q : ∀ v w F' H', Gr F H F' H' → rx (pk m1 F' H0 H') v x → ry (pk m2 F' H0 H') w y → Q v w H') : ta σ H fun v H1 => tb σ H1 fun w H2 => Q v w H2 :=
  h1 σ F H E _ fun v F1 H1 g1 k1 => h2 σ F1 H1 (E.gro g1) _ fun w F2 H2 g2 k2 => q v w F2 H2 (g1.trans g2) (mox (pk_mono m1 g2) k1) k2
/-- what spR asks, at a call -/
theorem spR_at {α β : Type} {T : XT} {P : Pt α} {fn : α → R Er β} {rs : β → LK.Slot} {W : Value → Option Addr → Hp → Prop} {vs : List V} {a : α} {F0 H0 F H : Hp} {Q : VK} (g0 : Gr F0 H0 F H) (ha : P.ra F H H vs a) (hno : fn a ≠ .no)
    (q1 : ∀ b, fn a = .ok b → ∀ v F' H', EnvOk F H [rs b] [some v] F' H' → Q v H') (q2 : ∀ er, fn a = .er er → ∀ cls d F' H', Gr F H F' H' → rEr T F' cls d er → W cls d H') : spR T P fn rs vs H Q (fun cls d H => W cls d H) :=
  ⟨F, a, g0.fh, ha, hno, q1, fun er he cls d F' H' g r => q2 er he cls d F' H' g r⟩
/-- a[b] by an own __getitem__ -/
theorem xownGet {α κ β : Type} {C0 : Addr} {rb : Rp α} [ib : Mo rb] {rk : Rp κ} [ik : Mo rk] {fn : α × κ × Unit → R Er β} {rs : β → LK.Slot} {f : R Er α} {g : R Er κ} {k n : Nat} {fa : Addr} {fd : FuncData} {ps : List Str} (ha : XE C a G m1 rb f) (hb' : XE C b G m2 rk g) (hins : ∀ F v y, rb F v y → ∃ p dx fs, v = .ref p ∧ F p = some (.ins C0 dx fs)) (O : OwnM C.X.K C0 fa "__getitem__") (hf : PySem.W.fnIn C.X.K fa = true) (hb : Binds C.X.K fd ps [])
    (Fo : FnOk C.X.prog C.X.w C.X.K C.X.mg C.X.base (L2.CX C.X.prog C.X.w) k fa fd ps (spR C.T (.cons m1 rb ib (.cons m2 rk ik .nil)) fn rs)) (hr : Room n C.X.A) (hn : ∀ b, Slot.nb (rs b) := by intro; trivial) (hk : k + 1 ≤ n := by decide) (hsl : ∀ x i, subscripted b true x i = runValue (.builtin "lifetime.subscript" ⟨[x, i], []⟩) := by intros; rfl) :
    XN C (.Subscript a b pos) G rs (f.bind fun x => g.bind fun y => fn (x, y, ())) := ⟨fun F0 H0 => by
  have ha := ha.h F0 H0; have hb' := hb'.h F0 H0
  refine Ds.le (t := tOwn2 C0 (spR C.T (.cons m1 rb ib (.cons m2 rk ik .nil)) fn rs) (WE C.W) (tE C.X a) (tE C.X b)) ?_ fun _ _ _ q => tE_le (pe_ownGet pE pE O hf Fo (hr.mono hk) hb (fun σ => passAt C.tk σ) hsl) q
  cases f with
  | no => trivial
  | er y => exact fun σ F H E w Q => ha σ F H E w _
  | ok x0 =>
    cases g with
    | no => trivial
    | er y => exact fun σ F H E w Q => ha σ F H E _ fun v F1 H1 g1 _ => hb' σ F1 H1 (E.gro g1) (fun F' H' cls d g z => w F' H' cls d (g1.trans g) z) _
    | ok y0 =>
      show Ds C F0 H0 _ G rs (fn (x0, y0, ()))
      have key : ∀ {v w : V} {F H F1 H1 : Hp}, Gr F0 H0 F H → Gr F H F1 H1 → rb (pk m1 F1 H0 H1) v x0 → rk (pk m2 F1 H0 H1) w y0 → (Pt.cons m1 rb ib (.cons m2 rk ik .nil)).ra F1 H1 H1 [v, w] (x0, y0, ()) := fun g0 g1 k1 k2 =>
        Pt.now (Pt.cons m1 rb ib (.cons m2 rk ik .nil)) (g0.trans g1) ⟨_, _, rfl, k1, _, _, rfl, k2, rfl⟩
      cases hf' : fn (x0, y0, ()) with
      | no => trivial
      | er y =>
        exact fun σ F H E w Q => ea2 ha hb' E fun v u F1 H1 g1 k1 k2 => by
          obtain ⟨p, dx, fs, e1, e2⟩ := hins _ _ _ k1
          exact ⟨p, dx, fs, e1, pk_now (E.gr.trans g1) _ _ e2, spR_at (E.gr.trans g1) (key E.gr g1 k1 k2) (by rw [hf']; exact fun z => nomatch z) (fun b hb => by rw [hf'] at hb; cases hb) fun er he cls d F2 H2 g2 r => by
            rw [hf'] at he; cases he
            exact w F2 H2 cls d (g1.trans g2) r⟩
      | ok b0 =>
        exact fun σ F H E Q q => ea2 ha hb' E fun v u F1 H1 g1 k1 k2 => by
          obtain ⟨p, dx, fs, e1, e2⟩ := hins _ _ _ k1
          exact ⟨p, dx, fs, e1, pk_now (E.gr.trans g1) _ _ e2, spR_at (E.gr.trans g1) (key E.gr g1 k1 k2) (by rw [hf']; exact fun z => nomatch z) (fun b hb v F2 H2 E2 => by
            rw [hf'] at hb; cases hb
            exact q v F2 H2 (g1.trans E2.gr) (envRebase g1 E2 (hn _))) fun er he => by rw [hf'] at he; cases he⟩⟩
end
section
variable {C : Cn} {β ρ ε Z S' : Type} {J : Jn β ρ ε Z} {G : List LK.Slot} {slk : S' → List LK.Slot} {e : Expr} {rest : List Stmt} {pos : Pos}
/-- an expression for what it does -/
theorem xb_exprN {α : Type} {sb : α → LK.Slot} {f : R Er α} {M : (S' → R ε ρ) → R ε ρ} (z : Z) (hz : Lw G (J.slz z)) (he : XN C e G sb f) (hr : XB C J rest G slk M) (hs : swapsWith e none pos.line C.X.env = pure false := by rfl) :
    XB C J (.Expr e pos :: rest) G slk (fun k => f.thn (fun y => J.em y z) fun _ => M k) := ⟨fun F0 H0 A D an k hk hA σ F H E => by
  have he := he.h F0 H0
  refine tS_le (pss_cons (ps_expr pE hs) pS) ?_
  cases f with
  | ok a => exact he σ F H E _ fun v F' H' g _ => hr.h F0 H0 A D an k hk hA _ F' H' (E.gro g)
  | er y => exact he σ F H E (an.air hz hA E) _
  | no => exact (an.no hA).elim⟩
end
end LJ
set_option Elab.async false
set_option linter.all false
set_option maxRecDepth 100000
set_option maxHeartbeats 4000000
set_option autoImplicit false
namespace LK
open PySem L2 PyProof.Rows
theorem Rd.exs {F F' : Hp} {p : Addr} {u : HO} (e : Exs F F') (hd : isD u = false) (hf : core u = u) (h : Rd F p u) : Rd F' p u := by
  rcases h with h | ⟨o, h⟩
  · exact .inl (e.at_ h (by rw [hf]; exact hd))
  · exact .inr ⟨o, e.at_ h hd⟩
instance {α : Type} (K : PySem.W.Frag) (r : Rp α) [h : Mo r] : Mo (rSq K r) := ⟨fun e ⟨p, vs, h1, h2, h3, h4⟩ => ⟨p, vs, h1, h2.elim (fun z => .inl (z.elim (fun z => .inl (Rd.exs e rfl rfl z)) .inr)) (fun z => .inr (z.elim (fun z => .inl (Rd.exs e rfl rfl z)) .inr)), h3, pmap (fun _ _ z => h.mo e z) h4⟩⟩
section
variable {F0 H0 : Hp} {G : List Slot} {m1 : Md} {ta : TE} {K : PySem.W.Frag}
theorem sqL_now {F H : Hp} {p : Addr} {vs : List V} (e : Ex F H) (h : SqL K F p vs) : SqL K H p vs := h.elim (fun z => .inl (Rd.exs e.s rfl rfl z)) .inr
theorem sqT_now {F H : Hp} {p : Addr} {vs : List V} (e : Ex F H) (h : SqT K F p vs) : SqT K H p vs := h.elim (fun z => .inl (Rd.exs e.s rfl rfl z)) .inr
end
end LK
namespace LJ
open PySem L2 LK LKX LKB ClX PyProof.Rows PySem.Spec
section
variable {C : Cn} {G : List LK.Slot} {m m1 : Md} {a e : Expr} {es : List Expr} {pos p p0 : Pos} {x : Str}
/-- a list as a sequence of either kind -/
theorem xsqL {α : Type} {r : Rp α} {f : R Er (List α)} (h : XE C e G m (rLst r) f) : XE C e G m (rSq C.X.K r) f := ⟨fun F0 H0 => by
  have h := h.h F0 H0
  cases f with
  | ok a => exact fun σ F H E Q q => h σ F H E Q fun v F' H' g ⟨p, vs, h1, h2, h3, h4⟩ => q v F' H' g ⟨p, vs, h1, .inl (SqL.of h2), h3, h4⟩
  | er y => exact h
  | no => trivial⟩
theorem xsqU {α : Type} {r : Rp α} {f : R Er (List α)} (h : XE C e G m (rTup r) f) : XE C e G m (rSq C.X.K r) f := ⟨fun F0 H0 => by
  have h := h.h F0 H0
  cases f with
  | ok a => exact fun σ F H E Q q => h σ F H E Q fun v F' H' g ⟨p, vs, h1, h2, h3, h4⟩ => q v F' H' g ⟨p, vs, h1, .inr (SqT.of h2), h3, h4⟩
  | er y => exact h
  | no => trivial⟩
end
section
variable {P : Program} {w : World} {K : PySem.W.Frag} {mg : Str → Option Value} {base : Heap}
theorem ok_MD {γ δ ζ α S' : Type} {X : XT} {su : Option Addr → γ → Mu} [pn : Pin su] {T : Pt α} {f : γ → α → R (Er × ζ) δ} {sv : Option Addr → δ → LK.Slot} {se : Option Addr → ζ → LK.Slot} {x qual : Str} {st : Stmt} {fa : Addr} {fd : FuncData} {y : Str} {N ps : List Str} {k : Nat} {dvs : List V} {kws : List (Str × V)} (c : Nat) (Fn : FunD K x qual (defArgs st) (defBody st) (defScope st) dvs kws fa fd) (S : FnScope (y :: N) ps (defScope st)) (hc : N.length = T.count + c) (hps : ps.length = T.count + 1)
    (kend : S' → R (Er × ζ) δ) (hend2 : ∀ s e, kend s ≠ .er e)
    (hbody : ∀ (cdv : Value) (A : Around) (outer : List Env) (s : Shared) (H : Hp) (E : XK) (hr : Room k (A.deeper (envOfC qual (defScope st) s.heap.objs.size fa cdv))) (p : Addr) (g : γ) (a : α),
      ∃ (slk : S' → List LK.Slot) (M : (S' → R (Er × ζ) δ) → R (Er × ζ) δ), XB (cnD P w K mg base (y :: N) S.nd qual (defScope st) fa cdv A outer s H E X) (jnM N.length (se (some p))) (defBody st) (.ow (su (some p) g) (pn.mo _ _) :: (T.slots a ++ List.replicate c .no)) slk M ∧ M kend = f g a ∧ (∀ s d, kend s = .ok d → Lw (slk s) (sv (some p) d :: List.replicate N.length .no))) :
    FnOk P w K mg base (L2.CX P w) (k + 1) fa fd ps (spM X su T f sv se) := by
  refine Fn.ok S (fun vs H Q E h => by rw [hps]; exact spM_len h) (fun cdv A outer s H vs Q E hr h => ?_)
  obtain ⟨F, p, Sf, g, a, ws, ev, e, hm, hS, ha, hno, q1, q2⟩ := h
  subst ev
  obtain ⟨slk, M, hB, hM, hsl⟩ := hbody cdv A outer s H E hr p g a
  have hl : ws.length = T.count := T.length ha
  have unc : ∀ {s0 : LK.Slot} {n : Nat} {σ : L2.St} {F' H' : Hp}, EnvOk F (cut Sf H) (s0 :: List.replicate n .no) σ F' H' → ∃ x, EnvOk F (cut Sf H) [s0] [x] F' H' := fun {s0 n σ F' H'} EE => by
    cases σ with
    | nil => have := EE.len; simp at this
    | cons x σ => exact ⟨x, EE.head⟩
  refine ⟨_, pS, hB.h F (cut Sf H) (fun r => r = f g a) _ ⟨fun h => hno h.symm, fun b => b.elim, fun er z h σ F' H' cls d EE r => ?_⟩ kend (fun s' hs σ F' H' EE => ?_) hM _ F H (entryM (im := pn.mo _ _) e (pn.to hm) hS ha c hc)⟩
  · obtain ⟨x, E1⟩ := unc EE
    exact q2 er z h.symm cls d x F' H' E1 r
  · cases hk : kend s' with
    | ok d =>
      obtain ⟨x, E1⟩ := unc (EE.weak (hsl s' d hk))
      exact q1 d (by rw [← hs, hk]) x F' H' E1
    | er y => exact absurd hk (hend2 s' y)
    | no => rw [hk] at hs; exact absurd hs.symm hno
end
/-- its __init__; dvs: the defaults that fill up -/
structure CalI (K : PySem.W.Frag) (mg : Str → Option Value) (C f : Addr) (x : Str) (fd : FuncData) (ps : List Str) (dvs : List V) : Prop where
  mm : Mk K C f
  gm : mg x = some (.ref C)
  b0 : Binds K fd ps []
  bd : ∃ ds, Vals dvs ds ∧ Binds K fd ps ds
structure CalM (K : PySem.W.Frag) (C : Addr) (m : Str) (f : Addr) (fd : FuncData) (ps : List Str) : Prop where
  mt : Meth K C m f
  bi : Binds K fd ps []
structure CalO (K : PySem.W.Frag) (C : Addr) (m : Str) (f : Addr) (fd : FuncData) (ps : List Str) : Prop where
  ow : OwnM K C f m
  fn : PySem.W.fnIn K f = true
  bi : Binds K fd ps []
/-- a class whose instances have a dict and the one field f -/
structure ClsB (K : PySem.W.Frag) (C : Addr) (f : Str) : Prop where
  cl : Cls K C
  no : NoAttr K C f
  sq : PySem.W.noSeq K C = true
theorem rI1_ins {α : Type} {C : Addr} {f : Str} {r : Rp α} : ∀ (F : Hp) (v : V) (y : α), rI1 C f r F v y → ∃ p dx fs, v = .ref p ∧ F p = some (.ins C dx fs) := fun _ _ _ ⟨p, dx, u, h1, h2, _⟩ => ⟨p, dx, _, h1, h2⟩
theorem rI1_meth {α : Type} {C : Addr} {f mn : Str} {r : Rp α} (h : (mn == f) = false) : ∀ (F : Hp) (v : V) (y : α), rI1 C f r F v y → ∃ p dx fs, v = .ref p ∧ F p = some (.ins C dx fs) ∧ fs.lookup mn = none := fun _ _ _ ⟨p, dx, u, h1, h2, _⟩ => ⟨p, dx, _, h1, h2, by simp [List.lookup, h]⟩
/-- the empty tuple of the text, as a default -/
theorem sq_none {α : Type} {K : PySem.W.Frag} {r : Rp α} {ea : Addr} {o : Obj} {n : Nat} (h : K.lookup ea = some o) (hc : o.cls = .type "tuple") (hd : o.data = .seq #[] n) (F : Hp) : rSq K r F (.ref ea) ([] : List α) :=
  ⟨ea, [], rfl, .inr (.inr ⟨o, #[], n, h, hc, hd, Nat.zero_le _, .nil⟩), by simp, .nil⟩
section
variable {C : Cn} {G : List LK.Slot} {m : Md} {o e : Expr} {es : List Expr} {pos p0 apos : Pos} {x mn : Str}
/-- C(e, ..), the defaults fill up -/
theorem xmk1 {α δ ζ β : Type} {C0 : Addr} {P : Pt α} {fn : Unit → α → R (Er × ζ) δ} {mv : Option Addr → δ → Mu} [pn : Pin mv] {se : Option Addr → ζ → LK.Slot} {k n : Nat} {f : Addr} {fd : FuncData} {ps : List Str} {dvs : List V} {P1 : Pt β} {g1 : R Er β} (ad : β → α) (I : CalI C.X.K C.X.mg C0 f x fd ps dvs)
    (Fo : FnOk C.X.prog C.X.w C.X.K C.X.mg C.X.base (L2.CX C.X.prog C.X.w) k f fd ps (spM C.T (m0 C0) P fn (fun o d => .ow (mv o d) (pn.mo o d)) se)) (hr : Room n C.X.A) (ha : XA C (e :: es) G P1 g1) (had : ∀ F H0 H vs b, P1.ra F H0 H vs b → P.ra F H0 H (vs ++ dvs) (ad b)) (hk : k + 1 ≤ n := by decide) (hg : Gl C.X x := by rfl) (hdb : (x == ("__debug__" : Str)) = false := by decide)
    (he : starEach (e :: es) C.X.env = (false, eval e C.X.env) :: starEach es C.X.env := by exact star_cons rfl) (hpl : (backTo pos (starEach es C.X.env)).any (·.1) = false := by rfl) : XN C (.Call (.Name x p0) (e :: es) [] pos) G (fun d => .ow (mv none d) (pn.mo none d)) (g1.bind fun b => mkR (fn () (ad b))) := by
  obtain ⟨ds, hd, hb⟩ := I.bd
  exact xmake (ad := ad) I.mm I.gm hb hd Fo hr ha had hk hg hdb he hpl
/-- C(e, ..), all are written -/
theorem xmk0 {α δ ζ : Type} {C0 : Addr} {P : Pt α} {fn : Unit → α → R (Er × ζ) δ} {mv : Option Addr → δ → Mu} [pn : Pin mv] {se : Option Addr → ζ → LK.Slot} {k n : Nat} {f : Addr} {fd : FuncData} {ps : List Str} {dvs : List V} {g1 : R Er α} (I : CalI C.X.K C.X.mg C0 f x fd ps dvs)
    (Fo : FnOk C.X.prog C.X.w C.X.K C.X.mg C.X.base (L2.CX C.X.prog C.X.w) k f fd ps (spM C.T (m0 C0) P fn (fun o d => .ow (mv o d) (pn.mo o d)) se)) (hr : Room n C.X.A) (ha : XA C (e :: es) G P g1) (hk : k + 1 ≤ n := by decide) (hg : Gl C.X x := by rfl) (hdb : (x == ("__debug__" : Str)) = false := by decide)
    (he : starEach (e :: es) C.X.env = (false, eval e C.X.env) :: starEach es C.X.env := by exact star_cons rfl) (hpl : (backTo pos (starEach es C.X.env)).any (·.1) = false := by rfl) : XN C (.Call (.Name x p0) (e :: es) [] pos) G (fun d => .ow (mv none d) (pn.mo none d)) (g1.bind fun b => mkR (fn () b)) :=
  xmake (ad := fun b => b) I.mm I.gm I.b0 .nil Fo hr ha (fun F H0 H vs b h => by rw [List.append_nil]; exact h) hk hg hdb he hpl
end
section
end
end LJ
set_option Elab.async false
set_option linter.all false
set_option maxRecDepth 100000
set_option maxHeartbeats 4000000
set_option autoImplicit false
namespace LK
open PySem L2 PyProof.Rows
instance {α β γ : Type} (r : Rp α) (s : Rp β) (t : Rp γ) [h : Tod r] [g : Tod s] [k : Tod t] : Tod (rP3 r s t) := ⟨fun x => .tup [h.d x.1, g.d x.2.1, k.d x.2.2], fun ⟨p, u, w, z, h1, h2, h3, h4, h5⟩ => by unfold rDt; exact ⟨p, [u, w, z], h1, h2, by simp, rDts_p.mpr (.cons (h.to h3) (.cons (g.to h4) (.cons (k.to h5) .nil)))⟩, fun {a b} e => by
  injection e with e
  injection e with e1 e2
  injection e2 with e2 e3
  injection e3 with e3 _
  exact Prod.ext (h.inj e1) (Prod.ext (g.inj e2) (k.inj e3))⟩
end LK
namespace LJ
open PySem L2 LK LKX LKB ClX PyProof.Rows PySem.Spec
section
end
end LJ
set_option Elab.async false
set_option linter.all false
set_option maxRecDepth 100000
set_option maxHeartbeats 4000000
set_option autoImplicit false
namespace LJ
open PySem L2 LK LKX LKB PyProof.Rows PySem.Spec
def Mr (C : Cn) (F0 H0 : Hp) {S ζ : Type} (t : TE) (G : List LK.Slot) (sv : S → LK.Slot) (sl : S → List LK.Slot) (sle : ζ → List LK.Slot) : R (Er × ζ) S → Prop
  | .ok s => ∀ σ F H, EnvOk F0 H0 G σ F H → ∀ Q : VK, (∀ v F' H', Ex F F' → EnvOk F0 H0 (sv s :: sl s) (some v :: σ) F' H' → Q v H') → t σ H Q
  | .er ez => ∀ σ F H, EnvOk F0 H0 G σ F H → (∀ F' H' cls d, EnvOk F0 H0 (sle ez.2) σ F' H' → rEr C.T F' cls d ez.1 → C.W cls d σ H') → ∀ Q : VK, t σ H Q
  | .no => True
structure XM (C : Cn) (e : Expr) (G : List LK.Slot) {S ζ : Type} (sv : S → LK.Slot) (sl : S → List LK.Slot) (sle : ζ → List LK.Slot) (f : R (Er × ζ) S) : Prop where
  h : ∀ F0 H0, Mr C F0 H0 (tE C.X e) G sv sl sle f
/-- .. a test -/
def Mt (C : Cn) (F0 H0 : Hp) {S ζ : Type} (t : TT) (G : List LK.Slot) (tb : S → Bool) (sl : S → List LK.Slot) (sle : ζ → List LK.Slot) : R (Er × ζ) S → Prop
  | .ok s => ∀ σ F H, EnvOk F0 H0 G σ F H → ∀ Q : Bool → Hp → Prop, (∀ F' H', Ex F F' → EnvOk F0 H0 (sl s) σ F' H' → Q (tb s) H') → t σ H Q
  | .er ez => ∀ σ F H, EnvOk F0 H0 G σ F H → (∀ F' H' cls d, EnvOk F0 H0 (sle ez.2) σ F' H' → rEr C.T F' cls d ez.1 → C.W cls d σ H') → ∀ Q : Bool → Hp → Prop, t σ H Q
  | .no => True
structure XMQ (C : Cn) (e : Expr) (G : List LK.Slot) {S ζ : Type} (tb : S → Bool) (sl : S → List LK.Slot) (sle : ζ → List LK.Slot) (f : R (Er × ζ) S) : Prop where
  h : ∀ F0 H0, Mt C F0 H0 (tT C.X e) G tb sl sle f
section
variable {C : Cn} {S ζ : Type} {F0 H0 : Hp} {G : List LK.Slot} {sv : S → LK.Slot} {tb : S → Bool} {sl : S → List LK.Slot} {sle : ζ → List LK.Slot}
theorem Mr.le {f : R (Er × ζ) S} {t u : TE} (h : Mr C F0 H0 t G sv sl sle f) (le : ∀ σ H Q, t σ H Q → u σ H Q) : Mr C F0 H0 u G sv sl sle f := by
  cases f with
  | ok a => exact fun σ F H E Q q => le _ _ _ (h σ F H E Q q)
  | er e => exact fun σ F H E w Q => le _ _ _ (h σ F H E w Q)
  | no => trivial
theorem Mt.le {f : R (Er × ζ) S} {t u : TT} (h : Mt C F0 H0 t G tb sl sle f) (le : ∀ σ H Q, t σ H Q → u σ H Q) : Mt C F0 H0 u G tb sl sle f := by
  cases f with
  | ok a => exact fun σ F H E Q q => le _ _ _ (h σ F H E Q q)
  | er e => exact fun σ F H E w Q => le _ _ _ (h σ F H E w Q)
  | no => trivial
end
section
variable {C : Cn} {β ρ ε Z S S' S2 ζ : Type} {J : Jn β ρ ε Z} {G : List LK.Slot} {slk : S' → List LK.Slot} {e : Expr} {rest st : List Stmt} {pos : Pos} {sv : S → LK.Slot} {tb : S → Bool} {sl : S → List LK.Slot} {sle : ζ → List LK.Slot} {f : R (Er × ζ) S}
theorem xb_ifM {c : Expr} {a b : List Stmt} {slj : S2 → List LK.Slot} {M1 M2 : S → (S2 → R ε ρ) → R ε ρ} {M : S2 → (S' → R ε ρ) → R ε ρ} (zz : ζ → Z) (hzz : ∀ z, Lw (sle z) (J.slz (zz z))) (hc : XMQ C c G tb sl sle f) (h1 : ∀ s, XB C J a (sl s) slj (M1 s)) (h2 : ∀ s, XB C J b (sl s) slj (M2 s)) (hr : ∀ s, XB C J rest (slj s) slk (M s)) :
    XB C J (.If c a b pos :: rest) G slk (fun k => f.thn (fun y => J.em y.1 (zz y.2)) fun s => cond (tb s) (M1 s fun s => M s k) (M2 s fun s => M s k)) := ⟨fun F0 H0 A D an k hk hA σ F H E => by
  have hc := hc.h F0 H0
  refine tS_le (pss_cons (ps_if pT pS pS) pS) ?_
  cases f with
  | ok s =>
    refine hc σ F H E _ fun F' H' _ E' => ?_
    have hA : A (cond (tb s) (M1 s fun s => M s k) (M2 s fun s => M s k)) := hA
    cases hb : tb s with
    | true =>
      rw [hb] at hA
      rw [if_pos rfl]; exact (h1 s).h F0 H0 A { D with nx := tS C.X rest D } an _ (fun s hs => (hr s).h F0 H0 A D an k hk hs) hA σ F' H' E'
    | false =>
      rw [hb] at hA
      rw [if_neg (by decide)]; exact (h2 s).h F0 H0 A { D with nx := tS C.X rest D } an _ (fun s hs => (hr s).h F0 H0 A D an k hk hs) hA σ F' H' E'
  | er y => exact hc σ F H E (fun F' H' cls d E' r => an.er y.1 (zz y.2) hA σ F' H' cls d (E'.weak (hzz y.2)) r) _
  | no => exact (an.no hA).elim⟩
end
section
variable {C : Cn} {S ζ : Type} {G : List LK.Slot} {a b : Expr} {pos : Pos} {sv : S → LK.Slot} {tb : S → Bool} {sl : S → List LK.Slot} {sle : ζ → List LK.Slot} {f : R (Er × ζ) S}
/-- a comparison, the left operand changes something -/
theorem xmqc2 {α β : Type} {rx : Rp α} {im : Mo rx} {ry : Rp β} {r : R2} {op : CmpOp} {m2 : Md} {va : S → α} {g : S → R Er β} {o : α → β → R Er Bool} (zs : S → ζ) (hzs : ∀ s, Lw (sl s) (sle (zs s))) (ha : XM C a G (fun s => .fz rx im (va s)) sl sle f) (hb : ∀ s, XE C b (sl s) m2 ry (g s)) (p : OpR C.X (compareOp op) r)
    (ho : ∀ (G : List LK.Slot) ta tb F0 H0 x y, Ed F0 H0 ta G .sh rx x → Ed F0 H0 tb G m2 ry y → Dr C F0 H0 (tOp r ta tb) G .sh rBl (o x y)) (hm : behindInMarks op b = false := by first | exact nobehind _ (by decide) (by decide) | rfl) :
    XMQ C (.Compare a [op] [b] pos) G (fun s : S × Bool => s.2) (fun s => sl s.1) sle (f.bind fun s => (g s).thn (fun e => (e, zs s)) fun y => (o (va s) y).noer.bind fun c => .ok (s, c)) := ⟨fun F0 H0 => by
  have ha := ha.h F0 H0
  refine Mt.le (t := tTest (tOp r (tE C.X a) (tE C.X b))) ?_ fun _ _ _ q => tT_le (pt_cmpR p pE pE hm) q
  cases f with
  | no => trivial
  | er y => exact fun σ F H E w Q => ha σ F H E w _
  | ok s =>
    have hb := (hb s).h F0 H0
    show Mt C F0 H0 _ G _ _ sle ((g s).thn _ _)
    cases hg : g s with
    | no => trivial
    | er y =>
      rw [hg] at hb
      exact fun σ F H E w Q => ha σ F H E _ fun v F1 H1 e1 E1 => hb σ F1 H1 E1.tail (fun F' H' cls d g' r' => w F' H' cls d ((E1.tail.gro g').weak (hzs s)) r') _
    | ok y =>
      rw [hg] at hb
      have h2 := ho (.fz rx im (va s) :: sl s) (tVar 0) (fun σ' H Q => tE C.X b σ'.tail H Q) F0 H0 (va s) y (ed_v (i := 0) rfl) fun σ' F H E Q q => by
        cases σ' with
        | nil => exact absurd E.len (by simp)
        | cons x σ' => exact hb σ' F H E.tail Q q
      show Mt C F0 H0 _ G _ _ sle ((o (va s) y).noer.bind _)
      cases hc : o (va s) y with
      | no => trivial
      | er y' => trivial
      | ok c =>
        rw [hc] at h2
        exact fun σ F H E Q q => ha σ F H E _ fun v F1 H1 e1 E1 => by
          obtain ⟨v', hv', q'⟩ := h2 (some v :: σ) F1 H1 E1 (fun x H' => ∃ k, x = .bl k ∧ Q k H') fun u F2 H2 g2 hu => ⟨c, hu, q F2 H2 (e1.trans g2.ff) (E1.tail.gro g2)⟩
          cases Option.some.inj (Option.some.inj hv')
          exact q'⟩
end
end LJ
set_option Elab.async false
set_option linter.all false
set_option maxRecDepth 100000
set_option maxHeartbeats 4000000
set_option autoImplicit false
namespace LK
open PySem L2 PyProof.Rows
/-- an own thing at a known address -/
def mP {α : Type} (mk : α → Mu) (o : Option Addr) (a : α) : Mu := fun F H p S => (∀ q, o = some q → p = q) ∧ mk a F H p S
instance {α : Type} (mk : α → Mu) [im : ∀ a, MoM (mk a)] (o : Option Addr) (a : α) : MoM (mP mk o a) := ⟨fun e k h => ⟨h.1, (im a).mo e k h.2⟩, fun h => (im a).own h.2, fun h => (im a).ty h.2⟩
instance {α : Type} (mk : α → Mu) [im : ∀ a, MoM (mk a)] : Pin (mP mk) := ⟨fun h => h.1 _ rfl, fun h => ⟨fun _ z => (nomatch z), h.2⟩, fun h => ⟨fun _ z => Option.some.inj z, h.2⟩, fun _ _ => inferInstance⟩
instance {α : Type} (mk : α → Mu) (r : Rp α) [fz : LJ.Fzz mk r] (o : Option Addr) : LJ.Fzz (mP mk o) r := ⟨fun h => fz.fz h.2⟩
/-- an own list, at a known address or not -/
def mPl {α : Type} (r : Rp α) : Option Addr → List α → Mu
  | none, xs => mL r xs
  | some q, xs => mP (mL r) (some q) xs
instance {α : Type} (r : Rp α) [Mo r] (o : Option Addr) (xs : List α) : MoM (mPl r o xs) := by
  cases o
  · show MoM (mL r xs); infer_instance
  · show MoM (mP (mL r) _ xs); infer_instance
instance {α : Type} (r : Rp α) [Mo r] : Pin (mPl r) := ⟨fun h => h.1 _ rfl, fun {o d F H p S} h => by
    cases o
    · exact h
    · exact h.2, fun h => ⟨fun _ z => Option.some.inj z, h⟩, fun _ _ => inferInstance⟩
/-- what is an own list, perhaps at a known address -/
class OwnL {α : Type} (mk : List α → Mu) (r : outParam (Rp α)) : Prop where
  c : ∃ c : Addr → Prop, ∀ xs F H p S, mk xs F H p S ↔ (c p ∧ mL r xs F H p S)
instance {α : Type} (r : Rp α) : OwnL (mL r) r := ⟨fun _ => True, fun _ _ _ _ _ => ⟨fun h => ⟨trivial, h⟩, fun h => h.2⟩⟩
instance {α : Type} (r : Rp α) (o : Option Addr) : OwnL (mP (mL r) o) r := ⟨fun p => ∀ q, o = some q → p = q, fun _ _ _ _ _ => Iff.rfl⟩
section
variable {F0 H0 F H F' H' : Hp} {G : List Slot} {σ : L2.St}
theorem EnvOk.lstO {α : Type} {mk : List α → Mu} {r : Rp α} [ol : OwnL mk r] {xs : List α} {iM : MoM (mk xs)} {i : Nat} (E : EnvOk F0 H0 G σ F H) (h : G[i]? = some (.ow (mk xs) iM)) : ∃ p vs, σ[i]? = some (some (.ref p)) ∧ F p = none ∧ H0 p = none ∧ H p = some (.lst vs) ∧ xs.length ≤ 16777216 ∧ Paired (r F) vs xs := by
  obtain ⟨p, S, e, h1, m⟩ := E.ow_at h
  obtain ⟨c, hc⟩ := ol.c
  obtain ⟨_, rfl, vs, h2, h3, h4⟩ := (hc _ _ _ _ _).mp m
  exact ⟨p, vs, e, (h1 p (by simp)).1, (h1 p (by simp)).2, h2, h3, h4⟩
theorem EnvOk.mutO {α : Type} {mk : List α → Mu} {r : Rp α} [ol : OwnL mk r] {xs ys : List α} {im : MoM (mk xs)} {iN : MoM (mk ys)} {i : Nat} {p : Addr} {vs : List V} (E : EnvOk F0 H0 G σ F H) (hi : G[i]? = some (.ow (mk xs) im)) (hp : σ[i]? = some (some (.ref p))) (hl : ys.length ≤ 16777216) (m : Paired (r F) vs ys) :
    EnvOk F0 H0 (G.set i (.ow (mk ys) iN)) σ F (upd H p (.lst vs)) := by
  have gr := E.gr
  obtain ⟨c, hc⟩ := ol.c
  refine E.mut (p := p) (S := []) (S' := []) hi fun q S hq hS hm => ?_
  obtain ⟨hcp, hS', ws, h1, h2, h3⟩ := (hc _ _ _ _ _).mp hm
  rw [hp] at hq; cases hq
  subst hS'
  have hF := (hS p (by simp)).1
  exact ⟨[p], Ex.refl F, fun a u e n => (by rw [n] at e; cases e), fun a ha _ _ => upd_ne (fun e => ha (by rw [e]; simp)), fun a u e => by rw [upd_ne (ne_of_none e hF)]; exact gr.fh a u e, fun a ha => ⟨.inl ha, by rw [List.mem_singleton.mp ha]; exact hF⟩, (hc _ _ _ _ _).mpr ⟨hcp, rfl, vs, upd_same, hl, m⟩⟩
end
end LK
namespace LJ
open PySem L2 LK LKX LKB PyProof.Rows PySem.Spec
def popR {α ε : Type} (xs : List α) : R ε (List α × α) := match xs[xs.length - 1]? with
  | some y => .ok (xs.dropLast, y)
  | none => .no
def popAtR {α ε : Type} (xs : List α) (i : Int) : R ε (List α × α) := R.iff (0 ≤ i) (match xs[i.toNat]? with
  | some y => .ok (xs.eraseIdx i.toNat, y)
  | none => .no)
section
variable {C : Cn} {G : List LK.Slot} {m : Md} {e : Expr} {pos p1 apos : Pos} {x : Str} {α ζ : Type} {mk : List α → Mu} {r : Rp α} [ol : OwnL mk r] [im : ∀ xs, MoM (mk xs)] [ir : Mo r] {xs : List α} {sle : ζ → List LK.Slot}
theorem pgetV {β γ : Type} {R' : β → γ → Prop} {us : List β} {ys : List γ} {n : Nat} {y : γ} (h : Paired R' us ys) (hy : ys[n]? = some y) : ∃ u, us[n]? = some u ∧ R' u y := pget h hy
theorem xm_pop (i : Nat) (hi : G[i]? = some (.ow (mk xs) (im xs))) 
    (hN : C.X.N[i]? = some x := by rfl) (hv : Vis C.X.env.scope x := by first | exact Or.inl rfl | exact Or.inr (Or.inl rfl) | exact Or.inr (Or.inr rfl)) (hd : (x == ("__debug__" : Str)) = false := by decide) (hcd : (x == ("__classdict__" : Str)) = false := by decide)
    (hbase : attributeBase (.Name x p1) "pop" C.X.env (eval (.Name x p1) C.X.env) = eval (.Name x p1) C.X.env := by rfl) (hline : (apos.endLine == pos.line) = true := by rfl) :
    XM C (.Call (.Attribute (.Name x p1) "pop" apos) [] [] pos) G (fun s : List α × α => .fz r ir s.2) (fun s => G.set i (.ow (mk s.1) (im s.1))) sle (popR xs) := ⟨fun F0 H0 => by
  refine Mr.le (t := tBM0 C.X.K "list" rPop (tVar i)) ?_ fun _ _ _ q => tE_le (pe_bm0 PySem.F.plainAttrs_list PySem.F.slot_list_pop PySem.F.type_list_pop mt_pop (pe_var hN hv hd hcd) hbase hline) q
  unfold popR
  cases hy : xs[xs.length - 1]? with
  | none => trivial
  | some y =>
    intro σ F H E Q q
    obtain ⟨p, vs, hx, h1, h2, h3, h4, h5⟩ := E.lstO hi
    obtain ⟨v, hv1, hv2⟩ := pgetV h5 hy
    refine ⟨_, hx, .inl ⟨rfl, _, SqL.of h3⟩, p, vs, v, rfl, rfl, h3, by rw [plen h5]; exact hv1, q v F _ (Ex.refl F) ?_⟩
    have E2 := E.mutO (iN := im xs.dropLast) hi hx (by simp; omega) (pdl h5)
    exact E2.push (s := .fz r ir y) ⟨v, rfl, hv2⟩ fun _ _ z => nomatch z⟩
theorem xm_popAt {g : R Er Int} (i : Nat) (z0 : ζ) (hz0 : Lw G (sle z0)) (hi : G[i]? = some (.ow (mk xs) (im xs))) (he : XE C e G m rInt g)
    (hN : C.X.N[i]? = some x := by rfl) (hv : Vis C.X.env.scope x := by first | exact Or.inl rfl | exact Or.inr (Or.inl rfl) | exact Or.inr (Or.inr rfl)) (hd : (x == ("__debug__" : Str)) = false := by decide) (hcd : (x == ("__classdict__" : Str)) = false := by decide)
    (hbase : attributeBase (.Name x p1) "pop" C.X.env (eval (.Name x p1) C.X.env) = eval (.Name x p1) C.X.env := by rfl)
    (hfew : ((backTo pos (starEach [e] C.X.env)).all (fun x => !x.1) && (backToKw pos (keywordEach [] C.X.env)).all (fun x => x.1.isSome) && decide ([e].length + ([] : List Keyword).length + (if ([] : List Keyword).isEmpty then 0 else 1) < 30)) = true := by rfl)
    (hline : (apos.endLine == pos.line) = true := by rfl) (hs : starEach [e] C.X.env = (false, eval e C.X.env) :: starEach [] C.X.env := by exact star_cons rfl) (hplain : (backTo pos (starEach [] C.X.env)).any (·.1) = false := by rfl) :
    XM C (.Call (.Attribute (.Name x p1) "pop" apos) [e] [] pos) G (fun s : List α × α => .fz r ir s.2) (fun s => G.set i (.ow (mk s.1) (im s.1))) sle (g.thn (fun y => (y, z0)) fun j => popAtR xs j) := ⟨fun F0 H0 => by
  have he := he.h F0 H0
  refine Mr.le (t := tBM C.X.K "list" rPopAt (tVar i) (tCons (tE C.X e) tNil)) ?_ fun _ _ _ q => tE_le (pe_bm PySem.F.plainAttrs_list PySem.F.slot_list_pop PySem.F.type_list_pop mt_popAt (pe_var hN hv hd hcd) (pa_cons pE pa_nil hs) hbase hfew hline hs hplain) q
  cases g with
  | no => trivial
  | er y =>
    intro σ F H E w Q
    obtain ⟨p, vs, hx, h1, h2, h3, h4, h5⟩ := E.lstO hi
    exact ⟨_, hx, .inl ⟨rfl, _, SqL.of h3⟩, he σ F H E (fun F' H' cls d g r => w F' H' cls d ((E.gro g).weak hz0) r) _⟩
  | ok j =>
    show Mr C F0 H0 _ G _ _ sle (popAtR xs j)
    unfold popAtR R.iff
    by_cases hj : 0 ≤ j
    · rw [if_pos hj]
      cases hy : xs[j.toNat]? with
      | none => trivial
      | some y =>
        intro σ F H E Q q
        obtain ⟨p, vs, hx, h1, h2, h3, h4, h5⟩ := E.lstO hi
        refine ⟨_, hx, .inl ⟨rfl, _, SqL.of h3⟩, he σ F H E _ fun v F1 H1 g1 hv => ?_⟩
        have E1 := E.gro g1
        obtain ⟨p', vs', hx', k1, k2, k3, k4, k5⟩ := E1.lstO hi
        rw [hx] at hx'
        cases Option.some.inj (Option.some.inj hx')
        obtain ⟨u, hu1, hu2⟩ := pgetV k5 hy
        have hlt : j.toNat < xs.length := (List.getElem?_eq_some_iff.mp hy).1
        have hl := plen k5
        refine ⟨p, vs', j, j.toNat, u, rfl, by rw [show v = _ from hv], k3, by omega, by omega, ?_, hu1, q u F1 _ g1.ff ?_⟩
        · unfold seqIndex?
          have : ¬ j < 0 := by omega
          simp [this]; omega
        · have E2 := E1.mutO (iN := im (xs.eraseIdx j.toNat)) hi hx (by rw [List.length_eraseIdx]; split <;> omega) (perase j.toNat k5)
          exact E2.push (s := .fz r ir y) ⟨u, rfl, hu2⟩ fun _ _ z => nomatch z
    · rw [if_neg hj]; trivial⟩
end
section
variable {C : Cn} {β ρ ε Z S S' ζ : Type} {J : Jn β ρ ε Z} {G : List LK.Slot} {slk : S' → List LK.Slot} {e ie : Expr} {rest : List Stmt} {pos p1 p2 p3 : Pos} {x : Str} {m : Md} {α : Type} {mk : List α → Mu} {r : Rp α} [ol : OwnL mk r] [im : ∀ xs, MoM (mk xs)] {xs : List α}
/-- x.append(e), e changes something -/
theorem xb_appM {sv : S → α} {sl : S → List LK.Slot} {sle : ζ → List LK.Slot} {f : R (Er × ζ) S} [ir : Mo r] {xw : S → List α} {M : S → List α → (S' → R ε ρ) → R ε ρ} (i : Nat) (G' : S → List α → List LK.Slot) (zz : ζ → Z) (hzz : ∀ z, Lw (sle z) (J.slz (zz z))) (hi0 : G[i]? = some (.ow (mk xs) (im xs))) (hi : ∀ s, (sl s)[i]? = some (.ow (mk (xw s)) (im (xw s)))) (he : XM C e G (fun s => .fz r ir (sv s)) sl sle f) (hG : ∀ s a, (sl s).set i (.ow (mk a) (im a)) = G' s a) (hr : ∀ s a, XB C J rest (G' s a) slk (M s a))
    (hN : C.X.N[i]? = some x := by rfl) (hv : Vis C.X.env.scope x := by first | exact Or.inl rfl | exact Or.inr (Or.inl rfl) | exact Or.inr (Or.inr rfl)) (hd : (x == ("__debug__" : Str)) = false := by decide) (hcd : (x == ("__classdict__" : Str)) = false := by decide)
    (hbase : attributeBase (.Name x p1) "append" C.X.env (eval (.Name x p1) C.X.env) = eval (.Name x p1) C.X.env := by rfl)
    (hfew : ((backTo p3 (starEach [e] C.X.env)).all (fun x => !x.1) && (backToKw p3 (keywordEach [] C.X.env)).all (fun x => x.1.isSome) && decide ([e].length + ([] : List Keyword).length + (if ([] : List Keyword).isEmpty then 0 else 1) < 30)) = true := by rfl)
    (hline : (p2.endLine == p3.line) = true := by rfl) (hs : starEach [e] C.X.env = (false, eval e C.X.env) :: starEach [] C.X.env := by exact star_cons rfl) (hplain : (backTo p3 (starEach [] C.X.env)).any (·.1) = false := by rfl)
    (hsw : swapsWith (.Call (.Attribute (.Name x p1) "append" p2) [e] [] p3) none pos.line C.X.env = pure false := by rfl) :
    XB C J (.Expr (.Call (.Attribute (.Name x p1) "append" p2) [e] [] p3) pos :: rest) G slk (fun k => f.thn (fun y => J.em y.1 (zz y.2)) fun s => (appR (xw s) (sv s)).bind fun ys => M s ys k) := ⟨fun F0 H0 A D an k hk hA σ F H E => by
  have he := he.h F0 H0
  refine tS_le (pss_cons (ps_expr (pe_bm PySem.F.plainAttrs_list PySem.F.slot_list_append PySem.F.type_list_append mt_append (pe_var hN hv hd hcd) (pa_cons pE pa_nil hs) hbase hfew hline hs hplain) hsw) pS) ?_
  obtain ⟨p, vs, hx, h1, h2, h3, h4, h5⟩ := E.lstO hi0
  cases f with
  | ok s =>
    have hA : A ((appR (xw s) (sv s)).bind fun ys => M s ys k) := hA
    unfold appR R.iff at hA
    by_cases hl : (xw s).length < 16777216
    · have hA : A (M s (xw s ++ [sv s]) k) := by simpa [hl] using hA
      refine ⟨_, hx, .inl ⟨rfl, _, SqL.of h3⟩, he σ F H E _ fun v F1 H1 e1 E1 => ?_⟩
      obtain ⟨v', hv', hvr⟩ := E1.fz_at (i := 0) rfl
      cases Option.some.inj (Option.some.inj hv')
      have E2 := E1.tail
      obtain ⟨p', vs', hx', k1, k2, k3, k4, k5⟩ := E2.lstO (hi s)
      rw [hx] at hx'
      cases Option.some.inj (Option.some.inj hx')
      refine ⟨p, vs', v, rfl, rfl, k3, by rw [plen k5]; exact sz_lt hl, ?_⟩
      refine (hr s (xw s ++ [sv s])).h F0 H0 A D an k hk hA σ F1 _ ?_
      rw [← hG]
      exact E2.mutO (hi s) hx (by simp; omega) (papp k5 (.cons hvr .nil))
    · simp [hl] at hA; exact (an.no hA).elim
  | er y => exact ⟨_, hx, .inl ⟨rfl, _, SqL.of h3⟩, he σ F H E (fun F' H' cls d E' r => an.er y.1 (zz y.2) hA σ F' H' cls d (E'.weak (hzz y.2)) r) _⟩
  | no => exact (an.no hA).elim⟩
theorem xb_clear [ol : OwnL mk r] {M : List α → (S' → R ε ρ) → R ε ρ} (i : Nat) (G' : List α → List LK.Slot) (hi : G[i]? = some (.ow (mk xs) (im xs))) (hG : ∀ a, G.set i (.ow (mk a) (im a)) = G' a) (hr : ∀ a, XB C J rest (G' a) slk (M a))
    (hN : C.X.N[i]? = some x := by rfl) (hv : Vis C.X.env.scope x := by first | exact Or.inl rfl | exact Or.inr (Or.inl rfl) | exact Or.inr (Or.inr rfl)) (hd : (x == ("__debug__" : Str)) = false := by decide) (hcd : (x == ("__classdict__" : Str)) = false := by decide)
    (hbase : attributeBase (.Name x p1) "clear" C.X.env (eval (.Name x p1) C.X.env) = eval (.Name x p1) C.X.env := by rfl) (hline : (p2.endLine == p3.line) = true := by rfl)
    (hsw : swapsWith (.Call (.Attribute (.Name x p1) "clear" p2) [] [] p3) none pos.line C.X.env = pure false := by rfl) :
    XB C J (.Expr (.Call (.Attribute (.Name x p1) "clear" p2) [] [] p3) pos :: rest) G slk (fun k => M [] k) := ⟨fun F0 H0 A D an k hk hA σ F H E => by
  refine tS_le (pss_cons (ps_expr (pe_bm0 PySem.F.plainAttrs_list PySem.F.slot_list_clear PySem.F.type_list_clear mt_clear (pe_var hN hv hd hcd) hbase hline) hsw) pS) ?_
  obtain ⟨p, vs, hx, h1, h2, h3, h4, h5⟩ := E.lstO hi
  refine ⟨_, hx, .inl ⟨rfl, _, SqL.of h3⟩, p, vs, rfl, rfl, h3, ?_⟩
  refine (hr []).h F0 H0 A D an k hk hA σ F _ ?_
  rw [← hG]
  exact E.mutO hi hx (by simp) .nil⟩
/-- x[j] = e -/
theorem xb_itemO {g : R Er α} {gi : R Er Int} {M : List α → (S' → R ε ρ) → R ε ρ} [ir : Mo r] (i : Nat) (G' : List α → List LK.Slot) (z : Z) (hz : Lw G (J.slz z)) (hi : G[i]? = some (.ow (mk xs) (im xs))) (he : XE C e G .sh r g) (hj : XE C ie G m rInt gi)
    (hG : ∀ xs, G.set i (.ow (mk xs) (im xs)) = G' xs) (hr : ∀ xs, XB C J rest (G' xs) slk (M xs))
    (hN : C.X.N[i]? = some x := by rfl) (hv : Vis C.X.env.scope x := by first | exact Or.inl rfl | exact Or.inr (Or.inl rfl) | exact Or.inr (Or.inr rfl)) (hd : (x == ("__debug__" : Str)) = false := by decide) (hcd : (x == ("__classdict__" : Str)) = false := by decide)
    (hsw : swapsWith e (some (.Subscript (.Name x p1) ie p3)) pos.line C.X.env = pure false := by rfl)
    (ha : ∀ v, assign (.Subscript (.Name x p1) ie p3) C.X.env v = (do
      let ov ← holding [v] (eval (.Name x p1) C.X.env)
      let iv ← holding [v, ov] (eval ie C.X.env)
      standAt p3
      holding [v, ov, iv] (setItem ov iv v)
      release [v, ov, iv] []) := by intro _; rfl) :
    XB C J (.Assign [.Subscript (.Name x p1) ie p3] e pos :: rest) G slk (fun k => g.thn (fun y => J.em y z) fun v => gi.thn (fun y => J.em y z) fun j => (R.iff (0 ≤ j ∧ j < xs.length) (.ok (xs.set j.toNat v))).bind fun ys => M ys k) := ⟨fun F0 H0 A D an k hk hA σ F H E => by
  have he := he.h F0 H0; have hj := hj.h F0 H0
  refine tS_le (pss_cons (ps_asg pE (pg_sub (pe_var hN hv hd hcd) pE set_list ha) hsw) pS) ?_
  cases g with
  | no => exact (an.no hA).elim
  | er y => exact he σ F H E (an.air hz hA E) _
  | ok a =>
    refine he σ F H E _ fun v F1 H1 g1 hv' => ?_
    have E1 := E.gro g1
    obtain ⟨p, vs, hx, h1, h2, h3, h4, h5⟩ := E1.lstO hi
    refine ⟨_, hx, ?_⟩
    cases gi with
    | no => exact (an.no hA).elim
    | er y => exact hj σ F1 H1 E1 (an.air hz hA E1) _
    | ok j =>
      refine hj σ F1 H1 E1 _ fun w F2 H2 g2 hw => ?_
      have E2 := E1.gro g2
      obtain ⟨p', vs', hx', k1, k2, k3, k4, k5⟩ := E2.lstO hi
      rw [hx] at hx'
      cases Option.some.inj (Option.some.inj hx')
      have hA : A ((R.iff (0 ≤ j ∧ j < xs.length) (.ok (xs.set j.toNat a))).bind fun ys => M ys k) := hA
      unfold R.iff at hA
      by_cases hjl : 0 ≤ j ∧ j < xs.length
      · rw [if_pos hjl] at hA
        have hA : A (M (xs.set j.toNat a) k) := hA
        have hl := plen k5
        refine ⟨p, vs', j, j.toNat, rfl, hw, k3, ?_, ?_⟩
        · unfold ixN; rw [if_pos hjl.1, if_pos (by omega)]
        · refine (hr _).h F0 H0 A D an k hk hA σ F2 _ ?_
          rw [← hG]
          exact E2.mutO hi hx (by rw [List.length_set]; exact k4) (pset (mox g2.ff hv') _ k5)
      · rw [if_neg hjl] at hA; exact (an.no hA).elim⟩
end
end LJ
set_option Elab.async false
set_option linter.all false
set_option maxRecDepth 100000
set_option maxHeartbeats 4000000
set_option autoImplicit false
namespace LK
open PySem L2 PyProof.Rows
/-- the own arguments, ahead of the others -/
inductive Ow : Type → Type 1
  | nil : Ow Unit
  | cons {δ γ : Type} (mu : Option Addr → δ → Mu) (pn : Pin mu) (r : Ow γ) : Ow (δ × γ)
def Ow.sl {γ : Type} : Ow γ → List (Option Addr) → γ → List Slot
  | .nil, _, _ => []
  | .cons mu pn r, os, g => .ow (mu (os.headD none) g.1) (pn.mo _ _) :: r.sl os.tail g.2
def Ow.n {γ : Type} : Ow γ → Nat
  | .nil => 0
  | .cons _ _ r => r.n + 1
theorem Ow.len {γ : Type} : ∀ (w : Ow γ) (os : List (Option Addr)) (g : γ), (w.sl os g).length = w.n
  | .nil, _, _ => rfl
  | .cons _ _ r, os, g => by unfold Ow.sl Ow.n; rw [List.length_cons, r.len]
/-- what stands at a place: an own thing, told with any address -/
theorem Ow.at_ {γ : Type} : ∀ (w : Ow γ) (g : γ) (j : Nat), j < w.n → ∃ (δ : Type) (mu : Option Addr → δ → Mu) (pn : Pin mu) (d : δ), ∀ os : List (Option Addr), (w.sl os g)[j]? = some (.ow (mu (os[j]?.getD none) d) (pn.mo _ _))
  | .nil, _, j, h => by exact absurd h (by unfold Ow.n; omega)
  | .cons mu pn r, g, 0, _ => ⟨_, mu, pn, g.1, fun os => by
      unfold Ow.sl
      cases os <;> rfl⟩
  | .cons mu pn r, g, j + 1, h => by
    obtain ⟨δ, mv, pv, d, k⟩ := r.at_ g.2 j (by unfold Ow.n at h; omega)
    refine ⟨δ, mv, pv, d, fun os => ?_⟩
    have := k os.tail
    unfold Ow.sl
    rw [List.getElem?_cons_succ, this]
    cases os <;> simp
/-- the slots at these places -/
def AtAll (G : List Slot) : List Nat → List Slot → Prop
  | [], [] => True
  | i :: is, s :: ss => G[i]? = some s ∧ AtAll G is ss
  | _, _ => False
theorem AtAll.get {G : List Slot} : ∀ {is : List Nat} {ss : List Slot} {j i : Nat} {s : Slot}, AtAll G is ss → is[j]? = some i → ss[j]? = some s → G[i]? = some s
  | [], [], j, _, _, _, h, _ => by simp at h
  | i :: is, s :: ss, 0, _, _, h, h1, h2 => by simp at h1 h2; subst h1 h2; exact h.1
  | i :: is, s :: ss, j + 1, _, _, h, h1, h2 => AtAll.get h.2 (by simpa using h1) (by simpa using h2)
  | [], _ :: _, _, _, _, h, _, _ => h.elim
  | _ :: _, [], _, _, _, h, _, _ => h.elim
theorem AtAll.len {G : List Slot} : ∀ {is : List Nat} {ss : List Slot}, AtAll G is ss → is.length = ss.length
  | [], [], _ => rfl
  | i :: is, s :: ss, h => by rw [List.length_cons, List.length_cons, AtAll.len h.2]
  | [], _ :: _, h => h.elim
  | _ :: _, [], h => h.elim
section
end
end LK
set_option Elab.async false
set_option linter.all false
set_option maxRecDepth 100000
set_option maxHeartbeats 4000000
set_option autoImplicit false
namespace LJ
open PySem L2 LK LKX LKB PyProof.Rows PySem.Spec
theorem Lw.of {G G' : List LK.Slot} (h : Lw G G') : Lw G G' := h
section
end
def Ur (C : Cn) (F0 H0 : Hp) (t : TA) (G : List LK.Slot) (is : List Nat) {α : Type} (P : Pt α) : R Er α → Prop
  | .ok a => ∀ σ F H, EnvOk F0 H0 G σ F H → ∀ Q : List V → Hp → Prop, (∀ (ps : List Addr) (ws : List V) (F' H' : Hp), Gr F H F' H' → is.map (fun i => σ[i]?) = ps.map (fun p => some (some (V.ref p))) → (∀ F2 Hc, Ex F' F2 → Ex F2 Hc → Ex H0 Hc → P.ra F2 Hc Hc ws a) → Q (ps.map V.ref ++ ws) H') → t σ H Q
  | .er e => ∀ σ F H, EnvOk F0 H0 G σ F H → (∀ F' H' cls d, Gr F H F' H' → rEr C.T F' cls d e → C.W cls d σ H') → ∀ Q : List V → Hp → Prop, t σ H Q
  | .no => True
section
variable {C : Cn} {G : List LK.Slot} {m : Md} {e : Expr} {es : List Expr} {pos p0 p1 apos : Pos} {x : Str} {is : List Nat}
theorem Ur.le {α : Type} {P : Pt α} {g : R Er α} {F0 H0 : Hp} {t u : TA} (h : Ur C F0 H0 t G is P g) (le : ∀ σ H Q, t σ H Q → u σ H Q) : Ur C F0 H0 u G is P g := by
  cases g with
  | ok a => exact fun σ F H E Q q => le _ _ _ (h σ F H E Q q)
  | er e => exact fun σ F H E w Q => le _ _ _ (h σ F H E w Q)
  | no => trivial
end
end LJ
set_option Elab.async false
set_option linter.all false
set_option maxRecDepth 100000
set_option maxHeartbeats 4000000
set_option autoImplicit false
namespace LJ
open PySem L2 LK LKX LKB PyProof.Rows PySem.Spec
section
variable {C : Cn} {β ρ ε Z S S' S2 ζ : Type} {J : Jn β ρ ε Z} {G : List LK.Slot} {slk : S' → List LK.Slot} {rest : List Stmt} {pos : Pos} {tb : S → Bool} {sl : S → List LK.Slot} {sle : ζ → List LK.Slot} {f : R (Er × ζ) S}
theorem xb_ifMv {c : Expr} {a b : List Stmt} {slj : S2 → List LK.Slot} {M1 M2 : S → (S2 → R ε ρ) → R ε ρ} {M : S2 → (S' → R ε ρ) → R ε ρ} (v1 v2 : S → R ε S2) (zz : ζ → Z) (hzz : ∀ z, Lw (sle z) (J.slz (zz z))) (hc : XMQ C c G tb sl sle f) (h1 : ∀ s, XB C J a (sl s) slj (M1 s)) (h2 : ∀ s, XB C J b (sl s) slj (M2 s)) (e1 : ∀ s k, M1 s k = (v1 s).bind k) (e2 : ∀ s k, M2 s k = (v2 s).bind k) (hr : ∀ s, XB C J rest (slj s) slk (M s)) :
    XB C J (.If c a b pos :: rest) G slk (fun k => (f.thn (fun y => J.em y.1 (zz y.2)) fun s => cond (tb s) (v1 s) (v2 s)).bind fun s => M s k) := ⟨fun F0 H0 A D an k hk hA => by
  refine (xb_ifM zz hzz hc h1 h2 hr).h F0 H0 A D an k hk ?_
  have e : (fun s => cond (tb s) (M1 s fun s => M s k) (M2 s fun s => M s k)) = fun s => (cond (tb s) (v1 s) (v2 s)).bind fun s => M s k := by
    funext s; rw [e1, e2, R.cond_bind]
  show A (f.thn _ fun s => cond (tb s) (M1 s fun s => M s k) (M2 s fun s => M s k))
  rw [e, ← R.thn_bind]; exact hA⟩
end
def cntTR (x y : List Nat) : R Er Int := match y with
  | [c] => .ok ((x.count c : Nat) : Int)
  | _ => .no
theorem cnt_nat (c : Nat) : ∀ l : List Nat, cnt c l = ((l.count c : Nat) : Int)
  | [] => rfl
  | n :: r => by
    rw [cnt_cons, cnt_nat c r, List.count_cons]
    by_cases h : n = c
    · subst h; simp; omega
    · simp [h]
theorem txt_count (x : List Nat) (c : Nat) : Txt.count ⟨x.toArray⟩ ⟨#[c]⟩ = ((x.count c : Nat) : Int) := by rw [count_cnt, cnt_nat]
section
variable {C : Cn} {G : List LK.Slot} {m m1 m2 : Md} {o a : Expr} {pos apos p : Pos}
theorem xcntT {f g : R Er (List Nat)} (ho : XE C o G m rTx f) (ha : XE C a G m1 rTx g) (hbase : attributeBase o "count" C.X.env (eval o C.X.env) = eval o C.X.env := by rfl)
    (hfew : ((backTo pos (starEach [a] C.X.env)).all (fun x => !x.1) && (backToKw pos (keywordEach [] C.X.env)).all (fun x => x.1.isSome) && decide ([a].length + ([] : List Keyword).length + (if ([] : List Keyword).isEmpty then 0 else 1) < 30)) = true := by rfl)
    (hline : (apos.endLine == pos.line) = true := by rfl) (hs : starEach [a] C.X.env = (false, eval a C.X.env) :: starEach [] C.X.env := by exact star_cons rfl) (hplain : (backTo pos (starEach [] C.X.env)).any (·.1) = false := by rfl) :
    XE C (.Call (.Attribute o "count" apos) [a] [] pos) G .sh rInt (f.bind fun x => g.bind fun y => cntTR x y) := ⟨fun F0 H0 => by
  have ho := ho.h F0 H0; have ha := ha.h F0 H0
  refine Dr.le (t := tBM C.X.K "str" (fun x xs H Q => ∃ a b, x = .str a ∧ xs = [.str b] ∧ Q (.int (Txt.count a b)) H) (tE C.X o) (tCons (tE C.X a) tNil)) ?_ fun _ _ _ q => tE_le (pe_bm PySem.F.plainAttrs_str PySem.F.slot_str_count PySem.F.type_str_count mt_count pE (pa_cons pE pa_nil hs) hbase hfew hline hs hplain) q
  cases f with
  | no => trivial
  | er y => exact fun σ F H E w Q => ho σ F H E w _
  | ok x =>
    have tv : ∀ {v : V} {H : Hp} {F : Hp}, rTx F v x → tyV C.X.K "str" v H := fun h => by rw [h.1]; exact rfl
    cases g with
    | no => trivial
    | er y => exact fun σ F H E w Q => ho σ F H E _ fun v F1 H1 g1 hv => ⟨tv hv, ha σ F1 H1 (E.gro g1) (fun F' H' cls d g z => w F' H' cls d (g1.trans g) z) _⟩
    | ok y =>
      match y with
      | [] => trivial
      | _ :: _ :: _ => trivial
      | [c] =>
        intro σ F H E Q q
        refine ho σ F H E _ fun v F1 H1 g1 hv => ⟨tv hv, ha σ F1 H1 (E.gro g1) _ fun w F2 H2 g2 hw => ⟨⟨x.toArray⟩, ⟨#[c]⟩, hv.1, congrArg (fun z => [z]) hw.1, ?_⟩⟩
        refine q _ F2 H2 (g1.trans g2) ?_
        rw [txt_count]
        exact rfl⟩
theorem xstrT {f : R Er (List Nat)} (ha : XE C a G m1 rTx f) (hm : C.X.mg "str" = none) (hg : Gl C.X "str" := by rfl) (he : starEach [a] C.X.env = (false, eval a C.X.env) :: starEach [] C.X.env := by exact star_cons rfl) (hpl : (backTo pos (starEach [] C.X.env)).any (·.1) = false := by rfl) :
    XE C (.Call (.Name "str" p) [a] [] pos) G .sh rTx (f.bind fun x => .ok x) := xcb1 ha (pTy SkE.call_str_str hm rfl hg (by decide) (by decide) he hpl) fun F0 H0 x h1 => ed_c1 h1 fun v F H g0 hv Q q => ⟨_, by rw [hv.1], q _ F H (Gr.refl g0.fh) ⟨rfl, hv.2⟩⟩
end
def leT (a b : List Nat) : Bool := !decide (b < a)
def sortT (xs : List (List Nat)) : List (List Nat) := xs.mergeSort leT
def sortTR (xs : List (List Nat)) : R Er (List (List Nat)) := R.iff (xs.length < 64) (.ok (sortT xs))
theorem leT_trans (a b c : List Nat) : leT a b = true → leT b c = true → leT a c = true := by
  unfold leT
  simp only [Bool.not_eq_true', decide_eq_false_iff_not]
  intro h1 h2
  exact List.le_trans (α := Nat) h1 h2
theorem leT_total (a b : List Nat) : (leT a b || leT b a) = true := by
  unfold leT
  simp only [Bool.or_eq_true, Bool.not_eq_true', decide_eq_false_iff_not]
  exact List.le_total a b
theorem leT_anti (a b : List Nat) : leT a b = true → leT b a = true → a = b := by
  unfold leT
  simp only [Bool.not_eq_true', decide_eq_false_iff_not]
  intro h1 h2
  exact List.le_antisymm (α := Nat) h1 h2
theorem rising_leT : ∀ (p : Str) (l : List Str), risingS p l = true → (p :: l).Pairwise fun a b => leT a.cps.toList b.cps.toList = true
  | p, [], _ => List.pairwise_singleton _ _
  | p, x :: r, h => by
    unfold risingS at h
    rw [Bool.and_eq_true] at h
    have h2 := rising_leT x r h.2
    refine List.pairwise_cons.mpr ⟨fun y hy => ?_, h2⟩
    have h1 : leT p.cps.toList x.cps.toList = true := by
      unfold leT
      rw [← ltCps_eq]; exact h.1
    rcases List.mem_cons.mp hy with e | hy
    · rw [e]; exact h1
    · exact leT_trans _ _ _ h1 ((List.pairwise_cons.mp h2).1 y hy)
theorem sorted_leT : ∀ (l : List Str), sortedS l = true → l.Pairwise fun a b => leT a.cps.toList b.cps.toList = true
  | [], _ => .nil
  | p :: l, h => rising_leT p l h
theorem sortT_of {xs ys : List (List Nat)} {zs : List Str} (hz : zs.Perm (ys.map fun y => ⟨y.toArray⟩)) (hs : sortedS zs = true) : zs = (sortT ys).map fun y => ⟨y.toArray⟩ := by
  have h1 : (zs.map fun z => z.cps.toList).Perm ys := by
    have := hz.map (fun z : Str => z.cps.toList)
    rw [List.map_map] at this
    have e : ((fun z : Str => z.cps.toList) ∘ fun y : List Nat => (⟨y.toArray⟩ : Str)) = id := by funext z; simp
    rwa [e, List.map_id] at this
  have h2 : (zs.map fun z => z.cps.toList).Pairwise fun a b => leT a b = true := List.pairwise_map.mpr (sorted_leT zs hs)
  have h3 : zs.map (fun z => z.cps.toList) = sortT ys := List.Perm.eq_of_pairwise (fun a b _ _ => leT_anti a b) h2 (List.pairwise_mergeSort leT_trans leT_total ys) (h1.trans (List.mergeSort_perm ys leT).symm)
  rw [← h3, List.map_map]
  have : ((fun y : List Nat => (⟨y.toArray⟩ : Str)) ∘ fun z : Str => z.cps.toList) = id := by funext z; simp
  rw [this, List.map_id]
section
variable {C : Cn} {G : List LK.Slot} {m m1 m2 : Md} {o a : Expr} {pos apos p p1 p2 p3 : Pos}
theorem ptx {F : Hp} : ∀ {vs : List V} {xs : List (List Nat)}, Paired (rTx F) vs xs → vs = (xs.map fun y => (⟨y.toArray⟩ : Str)).map V.str
  | [], [], _ => rfl
  | v :: vs, x :: xs, .cons h t => by rw [List.map_cons, List.map_cons, ← ptx t, h.1]
theorem txp {F : Hp} : ∀ {xs : List (List Nat)}, (∀ x ∈ xs, x.length ≤ 16777216 ∧ ∀ c ∈ x, c < 1114112) → Paired (rTx F) ((xs.map fun y => (⟨y.toArray⟩ : Str)).map V.str) xs
  | [], _ => .nil
  | x :: xs, h => .cons ⟨rfl, h x (by simp)⟩ (txp fun y hy => h y (by simp [hy]))
theorem ptx_all {F : Hp} : ∀ {vs : List V} {xs : List (List Nat)}, Paired (rTx F) vs xs → ∀ x ∈ xs, x.length ≤ 16777216 ∧ ∀ c ∈ x, c < 1114112
  | [], [], _ => fun _ h => by cases h
  | v :: vs, x :: xs, .cons h t => fun y hy => by
    rcases List.mem_cons.mp hy with e | hy
    · rw [e]; exact h.2
    · exact ptx_all t y hy
theorem xsortT {f : R Er (List (List Nat))} (ha : XE C a G m1 (rLst rTx) f) (hm : C.X.mg "sorted" = none) (hg : Gl C.X "sorted" := by rfl) (he : starEach [a] C.X.env = (false, eval a C.X.env) :: starEach [] C.X.env := by exact star_cons rfl) (hpl : (backTo pos (starEach [] C.X.env)).any (·.1) = false := by rfl) :
    XN C (.Call (.Name "sorted" p) [a] [] pos) G (fun xs => sL rTx xs) (f.bind sortTR) := x1n ha (pB cr_sortedS hm rfl hg (by decide) (by decide) he hpl) (fun _ _ _ z σ F H E w Q => z σ F H E w _) fun F0 H0 x h1 => ds_iff fun hl => by
  refine dv_en fun σ F H E Q q => h1 σ F H E _ fun v F1 H1 g1 hv => ?_
  obtain ⟨a', vs, rfl, k1, k2, k3⟩ := hv
  have g0 := E.gr.trans g1
  have k4 := pk_now g0 _ _ k1
  have e1 := ptx k3
  subst e1
  refine ⟨a', _, rfl, SqL.of k4, by rw [List.length_map]; exact hl, fun zs p' hz hs hp => ?_⟩
  have e2 := sortT_of (xs := x) hz hs
  subst e2
  have hp1 : F1 p' = none := g1.fh.back hp
  have hlen : (sortT x).length = x.length := by unfold sortT; exact (List.mergeSort_perm x leT).length_eq
  have hp0 : H p' = none := g1.hh.back hp
  exact q p' _ F1 _ (g1.trans (Gr.wild g1.fh hp)) hp0 hp1 upd_same (by omega) (txp fun y hy => ptx_all k3 y ((List.mergeSort_perm x leT).mem_iff.mp hy))
/-- if c in x: return x.replace(y, z) -/
def tIR (i : Nat) (c0 : Nat) (y z : Str) : TS := fun D σ H => ∃ l : Str, σ[i]? = some (some (.str l)) ∧ l.length + (l.length + 1) * z.length ≤ 16777216 ∧ (if c0 ∈ l.cps.toList then D.rt (.str (Txt.replace l y z)) H else D.nx σ H)
theorem ps_ifRepl {X : Cx} {x y z : Str} {i c0 n j k : Nat} {q q1 q2 pos1 pos2 pos3 cc0 cc1 : Pos} (hN : X.N[i]? = some x) (hv : Vis X.env.scope x) (hd : (x == ("__debug__" : Str)) = false) (hcd : (x == ("__classdict__" : Str)) = false) (hyz : (y == z) = false) (hm : behindInMarks .In (.Name x q1) = false)
    (hst : starEach [.Constant (.str y) j cc0, .Constant (.str z) k cc1] X.env = [(false, eval (.Constant (.str y) j cc0) X.env), (false, eval (.Constant (.str z) k cc1) X.env)])
    (hbase : attributeBase (.Name x p1) "replace" X.env (eval (.Name x p1) X.env) = eval (.Name x p1) X.env) (hline : (apos.endLine == pos1.line) = true) :
    PS X (.If (.Compare (.Constant (.str ⟨#[c0]⟩) n q) [.In] [.Name x q1] q2) [.Return (some (.Call (.Attribute (.Name x p1) "replace" apos) [.Constant (.str y) j cc0, .Constant (.str z) k cc1] [] pos1)) pos2] [] pos3) (tIR i c0 y z) := by
  refine ⟨fun pins s σ H D I h => ?_⟩
  obtain ⟨l, hl, hb, hq⟩ := h
  refine wpAny_If (wpAny_isTrue_Compare1 (Calls.Constant_str ?_) hm)
  refine wpAny_mono (PySem.wpAny_toks ((pe_var hN hv hd hcd).run pins _ σ H (fun v H1 => v = .str l ∧ H1 = H) (I.tok (s.toks + 1)) ⟨_, hl, rfl, rfl⟩)) (fun u s2 w => ?_) fun _ _ z => z.2
  obtain ⟨t2, v2, H2, I2, r2, rfl, rfl⟩ := w
  refine wpAny_mono (PySem.wpAny_toks (op_in_sign pins s2 σ H2 (.str ⟨#[c0]⟩) (.str l) _ u (fun v H1 => v = .bl (decide (c0 ∈ l.cps.toList)) ∧ H1 = H2) I2 ⟨_, rfl⟩ r2 ⟨c0, l, rfl, rfl, rfl, rfl⟩)) (fun c s3 w => ?_) fun _ _ z => z.2
  obtain ⟨t3, v3, H3, I3, r3, rfl, rfl⟩ := w
  cases r3
  refine wpAny_truthy_bool ?_
  have t1 : 1 ≤ s3.toks := by have : s.toks + 1 ≤ s2.toks := t2; omega
  by_cases hc : c0 ∈ l.cps.toList
  · rw [if_pos hc] at hq
    rw [decide_eq_true hc]
    exact CwR.psst_one (CwR.pst_ret (CwR.pet_replC (pe_var hN hv hd hcd) hyz hst hbase hline)) pins s3 σ H3 D t1 I3 ⟨_, hl, l, rfl, hb, hq⟩
  · rw [if_neg hc] at hq
    rw [decide_eq_false hc]
    exact pss_nil.run pins s3 σ H3 D I3 hq
theorem replL_one (c d : Nat) : ∀ l : List Nat, StrLaws.replL [c] [d] l = l.map fun n => if n = c then d else n
  | [] => StrLaws.replL_nil
  | n :: r => by
    have ih := replL_one c d r
    unfold StrLaws.replL at ih ⊢
    unfold StrLaws.replS
    by_cases h : n = c
    · subst h; simp [ih]
    · simp [h, ih]
def replT (c d : Nat) (l : List Nat) : List Nat := l.map fun n => if n = c then d else n
theorem txt_replace (l : List Nat) (c d : Nat) : Txt.replace ⟨l.toArray⟩ ⟨#[c]⟩ ⟨#[d]⟩ = ⟨(replT c d l).toArray⟩ := by
  have h := StrLaws.replace_list (x := ⟨l.toArray⟩) (y := ⟨#[c]⟩) (z := ⟨#[d]⟩) (Nat.le_refl 1)
  have h2 : (Txt.replace ⟨l.toArray⟩ ⟨#[c]⟩ ⟨#[d]⟩).cps.toList = replT c d l := by
    rw [h]; exact replL_one c d l
  rw [← h2]
end
section
variable {C : Cn} {β ρ ε Z S S' S2 ζ : Type} {J : Jn β ρ ε Z} {G : List LK.Slot} {slk : S' → List LK.Slot} {rest : List Stmt} {pos : Pos}
theorem xb_ifRepl {im : Mo rTx} {x : Str} {g : List Nat} {i n j k : Nat} {q q1 q2 p1 apos pos1 pos2 pos3 cc0 cc1 : Pos} {M : (S' → R ε ρ) → R ε ρ} (c0 c d : Nat) (b : List Nat → β) (z : Z) (hz : Lw G (J.slz z)) (hb : ∀ a, J.rs (b a) = .fz rTx im a) (hi : G[i]? = some (.fz rTx im g)) (hr : XB C J rest G slk M) (hcd2 : c ≠ d := by decide) (hdl : d < 1114112 := by decide)
    (hN : C.X.N[i]? = some x := by rfl) (hv : Vis C.X.env.scope x := by first | exact Or.inl rfl | exact Or.inr (Or.inl rfl) | exact Or.inr (Or.inr rfl)) (hd : (x == ("__debug__" : Str)) = false := by decide) (hcd : (x == ("__classdict__" : Str)) = false := by decide) (hyz : ((⟨#[c]⟩ : Str) == ⟨#[d]⟩) = false := by decide) (hm : behindInMarks .In (.Name x q1) = false := by rfl)
    (hst : starEach [.Constant (.str ⟨#[c]⟩) j cc0, .Constant (.str ⟨#[d]⟩) k cc1] C.X.env = [(false, eval (.Constant (.str ⟨#[c]⟩) j cc0) C.X.env), (false, eval (.Constant (.str ⟨#[d]⟩) k cc1) C.X.env)] := by rfl)
    (hbase : attributeBase (.Name x p1) "replace" C.X.env (eval (.Name x p1) C.X.env) = eval (.Name x p1) C.X.env := by rfl) (hline : (apos.endLine == pos1.line) = true := by rfl) :
    XB C J (.If (.Compare (.Constant (.str ⟨#[c0]⟩) n q) [.In] [.Name x q1] q2) [.Return (some (.Call (.Attribute (.Name x p1) "replace" apos) [.Constant (.str ⟨#[c]⟩) j cc0, .Constant (.str ⟨#[d]⟩) k cc1] [] pos1)) pos2] [] pos3 :: rest) G slk
      (fun k => R.iff (g.length ≤ 1000000) (cond (decide (c0 ∈ g)) (.ok (J.ret (b (replT c d g)) z)) (M k))) := ⟨fun F0 H0 A D an k hk hA σ F H E => by
  refine tS_le (pss_cons (ps_ifRepl hN hv hd hcd hyz hm hst hbase hline) pS) ?_
  obtain ⟨v, hx, hvt⟩ := E.fz_at hi
  have e : v = .str ⟨g.toArray⟩ := hvt.1
  subst e
  have hA : A (R.iff (g.length ≤ 1000000) (cond (decide (c0 ∈ g)) (.ok (J.ret (b (replT c d g)) z)) (M k))) := hA
  unfold R.iff at hA
  by_cases hl : g.length ≤ 1000000
  · rw [if_pos hl] at hA
    refine ⟨_, hx, by rw [tx_len]; show g.length + (g.length + 1) * 1 ≤ 16777216; omega, ?_⟩
    by_cases hc : c0 ∈ g
    · rw [if_pos (by simpa using hc)]
      rw [decide_eq_true hc] at hA
      have hA : A (.ok (J.ret (b (replT c d g)) z)) := hA
      refine an.ret _ z hA σ F H _ ?_
      refine EnvOk.weak (EnvOk.push (s := .fz rTx im (replT c d g)) (v := .str (Txt.replace ⟨g.toArray⟩ ⟨#[c]⟩ ⟨#[d]⟩)) E ⟨_, rfl, ?_⟩ fun _ _ z => nomatch z) ⟨.inr (hb _).symm, hz⟩
      refine ⟨by rw [txt_replace], by unfold replT; rw [List.length_map]; omega, fun n hn => ?_⟩
      unfold replT at hn
      obtain ⟨n0, h0, rfl⟩ := List.mem_map.mp hn
      split
      · exact hdl
      · exact hvt.2.2 n0 h0
    · rw [if_neg (by simpa using hc)]
      rw [decide_eq_false hc] at hA
      exact hr.h F0 H0 A D an k hk hA σ F H E
  · rw [if_neg hl] at hA
    exact (an.no hA).elim⟩
end
end LJ
set_option Elab.async false
set_option linter.all false
set_option maxRecDepth 100000
set_option maxHeartbeats 4000000
set_option autoImplicit false
namespace R
variable {ε δ α β : Type}
@[simp] theorem ok_noer (a : α) : (R.ok a : R ε α).noer = (R.ok a : R δ α) := rfl
theorem bind_thn {γ ζ : Type} (x : R ε α) (k : α → R ε β) (g : ε → ζ) (l : β → R ζ γ) : (x.bind k).thn g l = x.thn g fun a => (k a).thn g l := by cases x <;> rfl
theorem thn_thn {γ ζ : Type} (x : R ε α) (g : ε → δ) (k : α → R δ β) (h : δ → ζ) (l : β → R ζ γ) : (x.thn g k).thn h l = x.thn (fun e => h (g e)) fun a => (k a).thn h l := by cases x <;> rfl
end R
namespace LJ
open PySem L2 LK LKX LKB PyProof.Rows PySem.Spec
/-- membership, by the equality that the rules name -/
abbrev memD {α : Type} [DecidableEq α] (x : α) (y : List α) : Bool := decide (x ∈ y)
section
variable {C : Cn} {S ζ : Type} {G : List LK.Slot} {a b : Expr} {pos : Pos} {sl : S → List LK.Slot} {sle : ζ → List LK.Slot} {f : R (Er × ζ) S} {m2 : Md}
theorem xmq_lt {im : Mo rInt} {va : S → Int} {g : S → R Er Int} (zs : S → ζ) (hzs : ∀ s, Lw (sl s) (sle (zs s))) (ha : XM C a G (fun s => .fz rInt im (va s)) sl sle f) (hb : ∀ s, XE C b (sl s) m2 rInt (g s)) :
    XMQ C (.Compare a [.Lt] [b] pos) G (fun s : S × Bool => s.2) (fun s => sl s.1) sle (f.bind fun s => (g s).thn (fun e => (e, zs s)) fun y => (R.ok (decide (va s < y)) : R Er Bool).noer.bind fun c => .ok (s, c)) :=
  xmqc2 (o := fun x y => .ok (decide (x < y))) zs hzs ha hb op_lt fun G ta tb F0 H0 x y h1 h2 => ed_lt h1 h2
end
section
end
end LJ
set_option Elab.async false
set_option linter.all false
set_option maxRecDepth 100000
set_option maxHeartbeats 4000000
set_option autoImplicit false
namespace LJ
open PySem L2 LK LKX LKB PyProof.Rows PySem.Spec
structure CalP (K : PySem.W.Frag) (C : Addr) (m : Str) (f : Addr) (fd : FuncData) (ps : List Str) : Prop where
  at_ : ∃ p, PropOf K C m p f
  bi : Binds K fd ps []
section
variable {C : Cn} {G : List LK.Slot} {m m1 : Md} {a e : Expr} {es : List Expr} {pos p0 apos : Pos} {x mn : Str}
/-- e.f, a property that raises nothing -/
theorem xprop {α β : Type} {C0 : Addr} {rb : Rp α} [ib : Mo rb] {fn : α × Unit → R Er β} {rs : β → LK.Slot} {f : R Er α} {k n : Nat} {fa : Addr} {fd : FuncData} {ps : List Str} (ha : XE C a G m1 rb f) (hins : ∀ F v y, rb F v y → ∃ p dx fs, v = .ref p ∧ F p = some (.ins C0 dx fs)) (c : Cls C.X.K C0) (I : CalP C.X.K C0 mn fa fd ps)
    (Fo : FnOk C.X.prog C.X.w C.X.K C.X.mg C.X.base (L2.CX C.X.prog C.X.w) k fa fd ps (spR C.T (.cons m1 rb ib .nil) fn rs)) (hr : Room n C.X.A) (hn : ∀ b, Slot.nb (rs b) := by intro; trivial) (hk : k + 1 ≤ n := by decide) (hab : attributeBase a mn C.X.env (eval a C.X.env) = eval a C.X.env := by rfl) :
    XN C (.Attribute a mn pos) G rs (f.bind fun x => (fn (x, ())).noer) := ⟨fun F0 H0 => by
  have ha := ha.h F0 H0
  obtain ⟨p, hp⟩ := I.at_
  refine Ds.le (t := tPropS C0 (spR C.T (.cons m1 rb ib .nil) fn rs) (WE fun _ _ _ _ => False) (tE C.X a)) ?_ fun _ _ _ q => tE_le (pe_propS pE c hp Fo (hr.mono hk) I.bi (fun σ => passAt takes0 σ) hab) q
  cases f with
  | no => trivial
  | er y => exact fun σ F H E w Q => ha σ F H E w _
  | ok x0 =>
    show Ds C F0 H0 _ G rs (fn (x0, ())).noer
    cases hf : fn (x0, ()) with
    | no => trivial
    | er y => trivial
    | ok b0 =>
      intro σ F H E Q q
      refine ha σ F H E _ fun v F1 H1 g1 k1 => ?_
      obtain ⟨p', dx, fs, e1, e2⟩ := hins _ _ _ k1
      subst e1
      refine ⟨p', dx, fs, rfl, pk_now (E.gr.trans g1) _ _ e2, ?_⟩
      refine spR_at (E.gr.trans g1) (Pt.now (Pt.cons m1 rb ib .nil) (E.gr.trans g1) ⟨_, _, rfl, k1, rfl⟩) (by rw [hf]; exact fun z => nomatch z) (fun b hb v F3 H3 E3 => ?_) fun er he => by rw [hf] at he; cases he
      rw [hf] at hb; cases hb
      exact q v F3 H3 (g1.trans E3.gr) (envRebase g1 E3 (hn _))⟩
end
section
end
end LJ
set_option Elab.async false
set_option linter.all false
set_option maxRecDepth 100000
set_option maxHeartbeats 4000000
set_option autoImplicit false
namespace LK
open PySem L2 PyProof.Rows PySem.W
/-- data that are compared by < -/
class Lo {α : Type} (r : Rp α) [A : Da r] where
  lt : α → α → Bool
  alike : ∀ a b, PySem.W.alike (A.d a) (A.d b) = true
  nn : ∀ a, A.d a ≠ .none
  lt_eq : ∀ a b, dataLt (A.d a) (A.d b) = lt a b
instance : Lo rInt where
  lt a b := decide (a < b)
  alike a b := by show PySem.W.alike (.int a) (.int b) = true; simp only [PySem.W.alike]
  nn a := fun e => by cases e
  lt_eq a b := dataLt_int a b
instance : Lo rTx where
  lt a b := decide (a < b)
  alike a b := by show PySem.W.alike (.str _) (.str _) = true; simp only [PySem.W.alike]
  nn a := fun e => by cases e
  lt_eq a b := dataLt_str _ _
section
variable {α β : Type} [DecidableEq α] [DecidableEq β] {r : Rp α} {s : Rp β} [A : Da r] [B : Da s] [L : Lo r] [M : Lo s]
/-- the first difference decides, else the shorter is the less -/
def lsLt {α : Type} [DecidableEq α] (lt : α → α → Bool) : List α → List α → Bool
  | [], [] => false
  | [], _ :: _ => true
  | _ :: _, [] => false
  | x :: xs, y :: ys => if x = y then lsLt lt xs ys else lt x y
theorem alikeAll_lo : ∀ xs ys : List α, alikeAll (xs.map A.d) (ys.map A.d) = true
  | [], _ => by rw [List.map_nil, alikeAll]
  | _ :: _, [] => by rw [List.map_nil, List.map_cons, alikeAll]
  | x :: xs, y :: ys => by
    rw [List.map_cons, List.map_cons, alikeAll, L.alike x y, alikeAll_lo xs ys]
    rfl
theorem lexAll_lo : ∀ xs ys : List α, PyProof.Rows.lexLt itemOrd (keyToksAll (xs.map A.d)) (keyToksAll (ys.map A.d)) = lsLt L.lt xs ys
  | [], [] => lex_irrefl _
  | [], y :: ys => by
    rw [List.map_nil, List.map_cons, toks_all_cons]
    simp only [keyToksAll]
    rw [lex_diff (O := itemOrd) (by simp)]
    rfl
  | x :: xs, [] => by
    rw [List.map_nil, List.map_cons, toks_all_cons]
    simp only [keyToksAll]
    rw [lex_diff (O := itemOrd) (by simp)]
    rfl
  | x :: xs, y :: ys => by
    rw [List.map_cons, List.map_cons, lsLt]
    by_cases h : x = y
    · rw [if_pos h, dataLt_all_yes (L.alike x y) ((A.eqv x y).mpr h), lexAll_lo xs ys]
    · rw [if_neg h, dataLt_all_no (L.alike x y) (by rw [← Bool.not_eq_true, A.eqv]; exact h)]
      exact L.lt_eq x y
instance : Lo (rLst r) where
  lt := lsLt L.lt
  alike xs ys := by show PySem.W.alike (.list _) (.list _) = true; simp only [PySem.W.alike]; exact alikeAll_lo xs ys
  nn a := fun e => by cases e
  lt_eq xs ys := (dataLt_list _ _).trans (lexAll_lo xs ys)
instance : Lo (rTup r) where
  lt := lsLt L.lt
  alike xs ys := by show PySem.W.alike (.tuple _) (.tuple _) = true; simp only [PySem.W.alike]; exact alikeAll_lo xs ys
  nn a := fun e => by cases e
  lt_eq xs ys := (dataLt_tuple _ _).trans (lexAll_lo xs ys)
def prLt (lt : α → α → Bool) (lt' : β → β → Bool) (p q : α × β) : Bool := if p.1 = q.1 then lt' p.2 q.2 else lt p.1 q.1
instance : Lo (rPr r s) where
  lt := prLt L.lt M.lt
  alike p q := by
    show PySem.W.alike (.tuple [_, _]) (.tuple [_, _]) = true
    simp only [PySem.W.alike, alikeAll, L.alike, M.alike, Bool.and_self]
  nn a := fun e => by cases e
  lt_eq p q := by
    refine (dataLt_tuple _ _).trans ?_
    unfold prLt
    by_cases h : p.1 = q.1
    · rw [if_pos h, dataLt_all_yes (L.alike p.1 q.1) ((A.eqv _ _).mpr h)]
      by_cases h2 : p.2 = q.2
      · rw [dataLt_all_yes (M.alike p.2 q.2) ((B.eqv _ _).mpr h2), lex_irrefl, h2]
        exact ((dataLt_self _).symm.trans (M.lt_eq q.2 q.2))
      · rw [dataLt_all_no (M.alike p.2 q.2) (by rw [← Bool.not_eq_true, B.eqv]; exact h2)]
        exact M.lt_eq p.2 q.2
    · rw [if_neg h, dataLt_all_no (L.alike p.1 q.1) (by rw [← Bool.not_eq_true, A.eqv]; exact h)]
      exact L.lt_eq p.1 q.1
end
end LK
namespace LJ
open PySem L2 LK LKX LKB PyProof.Rows PySem.Spec
section
end
end LJ
set_option Elab.async false
set_option linter.all false
set_option maxRecDepth 100000
set_option maxHeartbeats 4000000
set_option autoImplicit false
namespace LK
open PySem L2 PyProof.Rows
/-- the list at p, its items at ps, their own addresses by place -/
structure LsAt {α : Type} (me : α → Mu) (xs : List α) (F H : Hp) (p : Addr) (ps : List Addr) (Sf : Nat → List Addr) : Prop where
  len : ps.length = xs.length
  sz : xs.length ≤ 16777216
  lst : H p = some (.lst (ps.map V.ref))
  el : ∀ i x q, xs[i]? = some x → ps[i]? = some q → me x F H q (Sf i)
  dj : ∀ i j a, i ≠ j → i < xs.length → j < xs.length → a ∈ Sf i → a ∉ Sf j
  out : ∀ i, i < xs.length → p ∉ Sf i
def mLs {α : Type} (me : α → Mu) (xs : List α) : Mu := fun F H p S => ∃ ps Sf, LsAt me xs F H p ps Sf ∧ ∀ a, a ∈ S ↔ a = p ∨ ∃ i, i < xs.length ∧ a ∈ Sf i
theorem LsAt.get {α : Type} {me : α → Mu} {xs : List α} {F H : Hp} {p : Addr} {ps : List Addr} {Sf : Nat → List Addr} (h : LsAt me xs F H p ps Sf) {i : Nat} (hi : i < xs.length) : ∃ q, ps[i]? = some q ∧ me xs[i] F H q (Sf i) := by
  have hq : ps[i]? = some (ps[i]'(by rw [h.len]; exact hi)) := List.getElem?_eq_getElem _
  exact ⟨_, hq, h.el i _ _ (List.getElem?_eq_getElem hi) hq⟩
theorem LsAt.mo {α : Type} {me : α → Mu} [im : ∀ x, MoM (me x)] {xs : List α} {F F' H H' : Hp} {p : Addr} {ps : List Addr} {Sf : Nat → List Addr} (h : LsAt me xs F H p ps Sf) (e : Exs F F') (k0 : H' p = H p) (k : ∀ i, i < xs.length → ∀ a ∈ Sf i, H' a = H a) : LsAt me xs F' H' p ps Sf :=
  ⟨h.len, h.sz, by rw [k0]; exact h.lst, fun i x q hx hq => (im x).mo e (k i (List.getElem?_eq_some_iff.mp hx).1) (h.el i x q hx hq), h.dj, h.out⟩
instance {α : Type} (me : α → Mu) [im : ∀ x, MoM (me x)] (xs : List α) : MoM (mLs me xs) := ⟨fun {F F' H H' p S} e k ⟨ps, Sf, h, hS⟩ => ⟨ps, Sf, h.mo e (k p ((hS p).mpr (.inl rfl))) (fun i hi a ha => k a ((hS a).mpr (.inr ⟨i, hi, ha⟩))), hS⟩, fun {F H p S} ⟨ps, Sf, h, hS⟩ a ha => by
  rcases (hS a).mp ha with e | ⟨i, hi, ha⟩
  · rw [e, h.lst]; exact fun z => nomatch z
  · obtain ⟨q, _, m⟩ := h.get hi
    exact (im _).own m a ha, fun {F H p S} ⟨ps, Sf, h, hS⟩ a ha o eo => by
  rcases (hS a).mp ha with e | ⟨i, hi, ha⟩
  · rw [e, h.lst] at eo; cases eo; rfl
  · obtain ⟨q, _, m⟩ := h.get hi
    exact (im _).ty m a ha o eo⟩
instance {α : Type} (me : α → Mu) (r : Rp α) [fz : LJ.Fzz me r] [mr : Mo r] : LJ.Fzz (mLs me) (rLst r) := ⟨fun {F F' H p S xs} ⟨ps, Sf, h, hS⟩ hp ee => by
  refine ⟨p, ps.map V.ref, rfl, by rw [hp p ((hS p).mpr (.inl rfl))]; exact h.lst, h.sz, ?_⟩
  have go : ∀ (ys : List α) (qs : List Addr) (n : Nat), qs.length = ys.length → (∀ i y, ys[i]? = some y → xs[n + i]? = some y) → (∀ i q, qs[i]? = some q → ps[n + i]? = some q) → Paired (r F') (qs.map V.ref) ys := by
    intro ys
    induction ys with
    | nil =>
      intro qs n hl _ _
      cases qs with
      | nil => exact .nil
      | cons => simp at hl
    | cons y ys ih =>
      intro qs n hl hy hq
      cases qs with
      | nil => simp at hl
      | cons q qs =>
        have hx := hy 0 y rfl
        have hlt := (List.getElem?_eq_some_iff.mp hx).1
        refine .cons (fz.fz (h.el _ y q hx (hq 0 q rfl)) (fun a ha => hp a ((hS a).mpr (.inr ⟨_, hlt, ha⟩))) ee) (ih qs (n + 1) (by simpa using hl) (fun i z hz => ?_) fun i z hz => ?_)
        · rw [show n + 1 + i = n + (i + 1) by omega]; exact hy (i + 1) z (by simpa using hz)
        · rw [show n + 1 + i = n + (i + 1) by omega]; exact hq (i + 1) z (by simpa using hz)
  exact go xs ps 0 h.len (fun i y hy => by rw [Nat.zero_add]; exact hy) (fun i q hq => by rw [Nat.zero_add]; exact hq)⟩
section
end
end LK
namespace LJ
open PySem L2 LK LKX LKB PyProof.Rows PySem.Spec
section
end
end LJ
set_option Elab.async false
set_option linter.all false
set_option maxRecDepth 100000
set_option maxHeartbeats 4000000
set_option autoImplicit false
namespace LK
open PySem L2 PyProof.Rows
section
end
end LK
namespace LJ
open PySem L2 LK LKX LKB PyProof.Rows PySem.Spec
section
end
end LJ
set_option Elab.async false
set_option linter.all false
set_option maxRecDepth 100000
set_option maxHeartbeats 4000000
set_option autoImplicit false
namespace LK
open PySem L2 PyProof.Rows
def rSum {α β : Type} (r : Rp α) (s : Rp β) : Rp (α ⊕ β) := fun F v x => match x with
  | .inl a => r F v a
  | .inr b => s F v b
instance {α β : Type} (r : Rp α) (s : Rp β) [h : Mo r] [h' : Mo s] : Mo (rSum r s) := ⟨fun {F F' v x} e z => by
  cases x with
  | inl a => exact h.mo e z
  | inr b => exact h'.mo e z⟩
instance {α β : Type} [Inhabited α] : Inhabited (α ⊕ β) := ⟨.inl default⟩
end LK
namespace LJ
open PySem L2 LK LKX LKB PyProof.Rows PySem.Spec
section
end
end LJ
set_option Elab.async false
set_option linter.all false
set_option maxRecDepth 100000
set_option maxHeartbeats 4000000
set_option autoImplicit false
namespace LKX
open PySem PySem.W PySem.Calls PyProof.Rows PySem.HandSPX
section
end
open L2
section
end
open LK
end LKX
namespace LK
open PySem L2 LKX PyProof.Rows
end LK
namespace LJ
open PySem L2 LK LKX LKB PyProof.Rows PySem.Spec
section
end
end LJ
namespace LKX
open PySem PySem.W PySem.Calls PyProof.Rows PySem.HandSPX L2
end LKX
namespace LJ
open PySem L2 LK LKX LKB PyProof.Rows PySem.Spec
end LJ
set_option Elab.async false
set_option linter.all false
set_option maxRecDepth 100000
set_option maxHeartbeats 4000000
set_option autoImplicit false
namespace LK
open PySem L2 PyProof.Rows
end LK
namespace LJ
open PySem L2 LK LKX LKB PyProof.Rows PySem.Spec
section
end
end LJ
set_option Elab.async false
set_option linter.all false
set_option maxRecDepth 100000
set_option maxHeartbeats 4000000
set_option autoImplicit false
namespace LK
open PySem PySem.Spec L2 PyProof.Rows
end LK
namespace LJ
open PySem L2 LK LKX LKB PyProof.Rows PySem.Spec
section
end
section
end
end LJ
set_option Elab.async false
set_option linter.all false
set_option maxRecDepth 100000
set_option maxHeartbeats 4000000
set_option autoImplicit false
namespace LJ
open PySem L2 LK LKX LKB PyProof.Rows PySem.Spec
section
end
end LJ
set_option Elab.async false
set_option linter.all false
set_option maxRecDepth 100000
set_option maxHeartbeats 4000000
set_option autoImplicit false
namespace LK
open PySem L2 PyProof.Rows
/-- a dict that is locked -/
def rDkL {κ β : Type} (rk : Rp κ) [Ke rk] (rv : Rp β) : Rp (List (κ × β)) := fun F v d => ∃ p od kvs, v = .ref p ∧ F p = some (.frz od (.dK kvs)) ∧ Paired (PK rk rv F) kvs d
section
variable {κ β : Type} {rk : Rp κ} [ke : Ke rk] {rv : Rp β}
instance [Mo rk] [Mo rv] : Mo (rDkL rk rv) := ⟨fun e ⟨p, od, kvs, h1, h2, h3⟩ => ⟨p, od, kvs, h1, e _ _ h2, pmap (fun _ _ z => z.mo e) h3⟩⟩
instance : Nn (rDkL rk rv) := ⟨fun ⟨_, _, _, h, _⟩ => by rw [h]; intro z; cases z⟩
theorem rDkL.un {F : Hp} {v : V} {d : List (κ × β)} (h : rDkL rk rv F v d) : rDk rk rv F v d := by
  obtain ⟨p, od, kvs, h1, h2, h3⟩ := h
  exact ⟨p, kvs, h1, .inr ⟨od, h2⟩, h3⟩
end
/-- an own dict, locked -/
def mDL {κ β : Type} (rk : Rp κ) [Ke rk] (rv : Rp β) (d : List (κ × β)) : Mu := fun F H p S => S = [p] ∧ ∃ od kvs, H p = some (.frz od (.dK kvs)) ∧ Paired (PK rk rv F) kvs d
instance {κ β : Type} (rk : Rp κ) [Ke rk] (rv : Rp β) [Mo rk] [Mo rv] (d : List (κ × β)) : MoM (mDL rk rv d) := ⟨fun e k ⟨h0, od, kvs, h1, h2⟩ => ⟨h0, od, kvs, by rw [k _ (by rw [h0]; exact List.mem_cons_self)]; exact h1, pmap (fun _ _ z => z.mo e) h2⟩,
  fun ⟨h0, od, kvs, h1, _⟩ a ha => by rw [h0] at ha; rw [List.mem_singleton.mp ha, h1]; exact (fun z => nomatch z), fun ⟨h0, od, kvs, h1, _⟩ a ha o e => by rw [h0] at ha; rw [List.mem_singleton.mp ha, h1] at e; cases e; rfl⟩
section
end
end LK
namespace LJ
open PySem L2 LK LKX LKB PyProof.Rows PySem.Spec
section
end
end LJ
set_option Elab.async false
set_option linter.all false
set_option maxRecDepth 100000
set_option maxHeartbeats 4000000
set_option autoImplicit false
namespace LK
open PySem PySem.Spec L2 PyProof.Rows
end LK
namespace LJ
open PySem L2 LK LKX LKB PyProof.Rows PySem.Spec
section
end
section
end
end LJ
namespace LJ
open PySem L2 LK LKX LKB PyProof.Rows PySem.Spec
section
end
end LJ
set_option Elab.async false
set_option linter.all false
set_option maxRecDepth 100000
set_option maxHeartbeats 4000000
set_option autoImplicit false
namespace LK
open PySem L2 PyProof.Rows
/-- the key of a tuple -/
def tkey (k : List Int) : List Key := k.map Sum.inl
section
variable {β : Type} {rv : Rp β}
/-- an item -/
def PT (rv : Rp β) (F : Hp) (kv : List Key × V) (x : List Int × β) : Prop := kv.1 = tkey x.1 ∧ rv F kv.2 x.2
theorem PT.mo [Mo rv] {F F' : Hp} (e : Exs F F') {kv : List Key × V} {x : List Int × β} (h : PT rv F kv x) : PT rv F' kv x := ⟨h.1, Mo.mo e h.2⟩
def rTd (rv : Rp β) : Rp (List (List Int × β)) := fun F v d => ∃ p kvs, v = .ref p ∧ Rd F p (.dT kvs) ∧ Paired (PT rv F) kvs d
def rTdL (rv : Rp β) : Rp (List (List Int × β)) := fun F v d => ∃ p od kvs, v = .ref p ∧ F p = some (.frz od (.dT kvs)) ∧ Paired (PT rv F) kvs d
def mTd (rv : Rp β) (d : List (List Int × β)) : Mu := fun F H p S => S = [p] ∧ ∃ kvs, H p = some (.dT kvs) ∧ Paired (PT rv F) kvs d
def mTdL (rv : Rp β) (d : List (List Int × β)) : Mu := fun F H p S => S = [p] ∧ ∃ od kvs, H p = some (.frz od (.dT kvs)) ∧ Paired (PT rv F) kvs d
instance [Mo rv] : Mo (rTd rv) := ⟨fun e ⟨p, kvs, h1, h2, h3⟩ => ⟨p, kvs, h1, e.rd h2 rfl, pmap (fun _ _ z => z.mo e) h3⟩⟩
instance [Mo rv] : Mo (rTdL rv) := ⟨fun e ⟨p, od, kvs, h1, h2, h3⟩ => ⟨p, od, kvs, h1, e _ _ h2, pmap (fun _ _ z => z.mo e) h3⟩⟩
instance [Mo rv] (d : List (List Int × β)) : MoM (mTd rv d) := ⟨fun e k ⟨h0, kvs, h1, h2⟩ => ⟨h0, kvs, by rw [k _ (by rw [h0]; exact List.mem_cons_self)]; exact h1, pmap (fun _ _ z => z.mo e) h2⟩,
  fun ⟨h0, kvs, h1, _⟩ a ha => by rw [h0] at ha; rw [List.mem_singleton.mp ha, h1]; exact (fun z => nomatch z), fun ⟨h0, kvs, h1, _⟩ a ha o e => by rw [h0] at ha; rw [List.mem_singleton.mp ha, h1] at e; cases e; rfl⟩
instance [Mo rv] (d : List (List Int × β)) : MoM (mTdL rv d) := ⟨fun e k ⟨h0, od, kvs, h1, h2⟩ => ⟨h0, od, kvs, by rw [k _ (by rw [h0]; exact List.mem_cons_self)]; exact h1, pmap (fun _ _ z => z.mo e) h2⟩,
  fun ⟨h0, od, kvs, h1, _⟩ a ha => by rw [h0] at ha; rw [List.mem_singleton.mp ha, h1]; exact (fun z => nomatch z), fun ⟨h0, od, kvs, h1, _⟩ a ha o e => by rw [h0] at ha; rw [List.mem_singleton.mp ha, h1] at e; cases e; rfl⟩
theorem rTdL.un {F : Hp} {v : V} {d : List (List Int × β)} (h : rTdL rv F v d) : rTd rv F v d := by
  obtain ⟨p, od, kvs, h1, h2, h3⟩ := h
  exact ⟨p, kvs, h1, .inr ⟨od, h2⟩, h3⟩
end
section
variable {β : Type} {rv : Rp β} {F0 H0 : Hp} {G : List Slot}
/-- a tuple that stands may be frozen -/
theorem Gr.tup {F H : Hp} {q : Addr} {vs : List V} (e : Ex F H) (h : H q = some (.tup vs)) : Gr F H (upd F q (.tup vs)) H := by
  refine ⟨fun a u z => ?_, fun a u z => ?_, Ex.refl H, fun a u z n => ?_⟩
  · by_cases ha : a = q
    · subst ha
      have := e a u z
      rw [h] at this; cases this
      exact upd_same
    · rw [upd_ne ha]; exact z
  · by_cases ha : a = q
    · subst ha; rw [upd_same] at z; cases z; exact h
    · rw [upd_ne ha] at z; exact e a u z
  · by_cases ha : a = q
    · subst ha; rw [upd_same] at z; cases z; exact .inr rfl
    · rw [upd_ne ha, n] at z; cases z
end
end LK
namespace LJ
open PySem L2 LK LKX LKB PyProof.Rows PySem.Spec
section
end
section
end
end LJ
set_option Elab.async false
set_option linter.all false
set_option maxRecDepth 100000
set_option maxHeartbeats 4000000
set_option autoImplicit false
namespace LK
open PySem PySem.Spec L2 PyProof.Rows
end LK
namespace LJ
open PySem L2 LK LKX LKB PyProof.Rows PySem.Spec
section
end
section
variable {C : Cn} {G : List LK.Slot} {m m1 m2 : Md} {a b : Expr} {pos p : Pos} {α : Type} {r : Rp α} [DecidableEq α] [Mo r] [A : Da r]
theorem da_shaped {F : Hp} {v : V} {x : α} (h : r F v x) (hd : A.dep ≤ 64) : SeqAt.shaped (A.d x) = true := by
  unfold SeqAt.shaped
  rw [A.lay h, decide_eq_true (Nat.le_trans (A.dep_le x) hd)]; rfl
end
section
end
section
end
theorem XQ.cast {C : Cn} {G : List LK.Slot} {e : Expr} {f g : R Er Bool} (h : XQ C e G f) (q : f = g) : XQ C e G g := q ▸ h
end LJ
set_option Elab.async false
set_option linter.all false
set_option maxRecDepth 100000
set_option maxHeartbeats 4000000
set_option autoImplicit false
namespace LK
open PySem L2 PyProof.Rows
/-- the fields of a class, the last one outermost -/
structure Rc (α : Type) where
  ns : List Str
  rel : Hp → List V → α → Prop
def Rc.nil : Rc Unit := ⟨[], fun _ us _ => us = []⟩
def Rc.add {α β : Type} (R : Rc α) (f : Str) (r : Rp β) : Rc (α × β) := ⟨R.ns ++ [f], fun F us x => ∃ ws u, us = ws ++ [u] ∧ R.rel F ws x.1 ∧ r F u x.2⟩
class MoRc {α : Type} (R : Rc α) : Prop where
  mo : ∀ {F F' : Hp} {us : List V} {a : α}, Exs F F' → R.rel F us a → R.rel F' us a
  len : ∀ {F : Hp} {us : List V} {a : α}, R.rel F us a → us.length = R.ns.length
instance : MoRc Rc.nil := ⟨fun _ h => h, fun h => by rw [show _ = _ from h]; rfl⟩
instance {α β : Type} (R : Rc α) (f : Str) (r : Rp β) [m : MoRc R] [h : Mo r] : MoRc (R.add f r) := ⟨fun e ⟨ws, u, h1, h2, h3⟩ => ⟨ws, u, h1, m.mo e h2, h.mo e h3⟩, fun ⟨ws, u, h1, h2, h3⟩ => by
  rw [h1, List.length_append, m.len h2]
  show _ = (R.ns ++ [f]).length
  rw [List.length_append]; rfl⟩
def rR {α : Type} (C : Addr) (R : Rc α) : Rp α := fun F v a => ∃ p dx us, v = .ref p ∧ F p = some (.ins C dx (R.ns.zip us)) ∧ R.rel F us a
instance {α : Type} (C : Addr) (R : Rc α) [m : MoRc R] : Mo (rR C R) := ⟨fun e ⟨p, dx, us, h1, h2, h3⟩ => ⟨p, dx, us, h1, e.at_ h2 rfl, m.mo e h3⟩⟩
instance {α : Type} (C : Addr) (R : Rc α) : Nn (rR C R) := ⟨fun ⟨_, _, _, h, _⟩ => by rw [h]; intro z; cases z⟩
def mR {α : Type} (C : Addr) (R : Rc α) (o : Option Addr) (a : α) : Mu := fun F H p S => (∀ q, o = some q → p = q) ∧ ∃ dx us, S = [p, dx] ∧ H p = some (.ins C dx (R.ns.zip us)) ∧ H dx = some (.own p) ∧ R.rel F us a
instance {α : Type} (C : Addr) (R : Rc α) [m : MoRc R] (o : Option Addr) (a : α) : MoM (mR C R o a) := ⟨fun {F F' H H' p S} e k ⟨h0, dx, us, h1, h2, h3, h4⟩ => by
    subst h1
    exact ⟨h0, dx, us, rfl, by rw [k p (by simp)]; exact h2, by rw [k dx (by simp)]; exact h3, m.mo e h4⟩, fun {F H p S} ⟨h0, dx, us, h1, h2, h3, _⟩ a ha => by
    subst h1
    rcases List.mem_cons.mp ha with e | ha
    · rw [e, h2]; exact fun z => nomatch z
    · rw [List.mem_singleton.mp ha, h3]; exact (fun z => nomatch z), fun {F H p S} ⟨h0, dx, us, h1, h2, h3, _⟩ a ha o eo => by
    subst h1
    rcases List.mem_cons.mp ha with e | ha
    · rw [e, h2] at eo; cases eo; rfl
    · rw [List.mem_singleton.mp ha, h3] at eo; cases eo; rfl⟩
instance {α : Type} (C : Addr) (R : Rc α) [MoRc R] : Pin (mR C R) := ⟨fun h => h.1 _ rfl, fun h => ⟨fun _ z => (nomatch z), h.2⟩, fun h => ⟨fun _ z => Option.some.inj z, h.2⟩, fun _ _ => inferInstance⟩
instance {α : Type} (C : Addr) (R : Rc α) [m : MoRc R] (o : Option Addr) : LJ.Fzz (mR C R o) (rR C R) := ⟨fun {F F' H p S a} ⟨_, dx, us, h1, h2, h3, h4⟩ hp ee => by
  subst h1
  exact ⟨p, dx, us, rfl, by rw [hp p (by simp)]; exact h2, m.mo ee.s h4⟩⟩
end LK
namespace LJ
open PySem L2 LK LKX LKB PyProof.Rows PySem.Spec
section
end
section
end
end LJ
set_option Elab.async false
set_option linter.all false
set_option maxRecDepth 100000
set_option maxHeartbeats 4000000
set_option autoImplicit false
namespace LK
open PySem L2 PyProof.Rows
section
end
end LK
namespace LJ
open PySem L2 LK LKX LKB PyProof.Rows PySem.Spec
section
end
section
end
instance {α β γ : Type} {r : LK.Rp α} {s : LK.Rp β} {t : LK.Rp γ} : LK.Nn (LK.rP3 r s t) := ⟨fun ⟨_, _, _, _, h, _⟩ => by rw [h]; intro z; cases z⟩
section
open PySem L2 LK LKX
end
end LJ
set_option Elab.async false
set_option linter.all false
set_option maxRecDepth 100000
set_option maxHeartbeats 4000000
set_option autoImplicit false
namespace LJ
open PySem L2 LK LKX PyProof.Rows PySem.Spec
section
variable {X : Cx} {CX : CXT} {k n0 : Nat} {f : Addr} {fd : FuncData} {ps ks : List Str} {sp : Sp} {E : L2.St → XK} {x : Str} {p pos : Pos} {e : Expr} {es : List Expr} {kws : List Keyword} {t tk : TA}
/-- canonical reading of keywords -/
def tK (X : Cx) (kws : List Keyword) : TA := fun σ H Q => ∀ (pos : Pos) (pins : List (Addr × Obj)) (s : Shared), Inv X pins σ H s → wpAny (model X.prog X.w) X.A (evalAll ((backToKw pos (keywordEach kws X.env)).map (·.2))) (AP X pins σ Q) X.xe s
theorem pK : PK X kws (tK X kws) := ⟨fun pos pins s σ H Q I h => h pos pins s I⟩
theorem tK_le (h : PK X kws t) {σ : L2.St} {H : Hp} {Q : List V → Hp → Prop} (q : t σ H Q) : tK X kws σ H Q := fun pos pins s I => h.run pos pins s σ H Q I q
end
section
variable {C : Cn} {G : List LK.Slot} {m : Md} {e : Expr} {es : List Expr} {kws : List Keyword} {x : Str} {p pos kpos : Pos} {nm : Option Str}
structure XKw (C : Cn) (kws : List Keyword) (G : List LK.Slot) {α : Type} (P : Pt α) (f : R Er α) : Prop where
  h : ∀ F0 H0, Ar C F0 H0 (tK C.X kws) G (fun a => Ea F0 H0 (tK C.X kws) G P.ra a) f
theorem xw_nil : XKw C [] G .nil (.ok ()) := ⟨fun F0 H0 σ F H E Q q => tK_le pk_nil (ea_nil (F0 := F0) (H0 := H0) σ F H E Q q)⟩
theorem xw_cons {α β : Type} {r : Rp α} [im : Mo r] {P : Pt β} {f : R Er α} {g : R Er β} (ha : XE C e G m r f) (hr : XKw C kws G P g) : XKw C (⟨nm, e, kpos⟩ :: kws) G (.cons m r im P) (f.bind fun x => g.bind fun xs => .ok (x, xs)) := ⟨fun F0 H0 => by
  have ha := ha.h F0 H0; have hr := hr.h F0 H0
  have le : ∀ σ H Q, tCons (tE C.X e) (tK C.X kws) σ H Q → tK C.X (⟨nm, e, kpos⟩ :: kws) σ H Q := fun _ _ _ q => tK_le (pk_cons pE pK) q
  cases f with
  | no => trivial
  | er y => exact fun σ F H E w Q => le _ _ _ (ha σ F H E w _)
  | ok x =>
    cases g with
    | no => trivial
    | er y => exact fun σ F H E w Q => le _ _ _ (ha σ F H E _ fun v F1 H1 g1 _ => hr σ F1 H1 (E.gro g1) (fun F' H' cls d g z => w F' H' cls d (g1.trans g) z) _)
    | ok xs => exact fun σ F H E Q q => le _ _ _ (ea_cons ha hr σ F H E Q q)⟩
end
end LJ
set_option Elab.async false
set_option linter.all false
set_option maxRecDepth 100000
set_option maxHeartbeats 4000000
set_option autoImplicit false
namespace LJ
open PySem L2 LK LKX LKB PyProof.Rows PySem.Spec
section
end
section
end
end LJ
set_option Elab.async false
set_option linter.all false
set_option maxRecDepth 100000
set_option maxHeartbeats 4000000
set_option autoImplicit false
namespace LJ
open PySem L2 LK LKX LKB PyProof.Rows PySem.Spec
end LJ
namespace LK
open PySem L2 PyProof.Rows PySem.Spec
/-- data that are never None -/
class Tnn {α : Type} (r : Rp α) [t : Tod r] : Prop where
  nn : ∀ a, t.d a ≠ .non
instance : Tnn rInt := ⟨fun _ e => by cases e⟩
instance : Tnn rBl := ⟨fun _ e => by cases e⟩
instance : Tnn rTx := ⟨fun _ e => by cases e⟩
instance {α : Type} (r : Rp α) [Tod r] : Tnn (rLst r) := ⟨fun _ e => by cases e⟩
instance {α : Type} (r : Rp α) [Tod r] : Tnn (rTup r) := ⟨fun _ e => by cases e⟩
instance {α β : Type} (r : Rp α) (s : Rp β) [Tod r] [Tod s] : Tnn (rPr r s) := ⟨fun _ e => by cases e⟩
def todO {α : Type} (f : α → Dt) : Option α → Dt
  | none => .non
  | some a => f a
instance {α : Type} (r : Rp α) [t : Tod r] [n : Tnn r] : Tod (rOpt r) where
  d := todO t.d
  to := fun {F v a} h => by
    cases a with
    | none => unfold todO rDt; exact h
    | some a => exact t.to h
  inj := fun {a b} e => by
    cases a with
    | none =>
      cases b with
      | none => rfl
      | some b => exact absurd (show t.d b = .non from e.symm) (n.nn b)
    | some a =>
      cases b with
      | none => exact absurd (show t.d a = .non from e) (n.nn a)
      | some b => exact congrArg some (t.inj e)
instance {α : Type} (r : Rp α) [t : Tod r] [n : Tnn r] (k : Nat) [h : Dep r k] : Dep (rOpt r) k := ⟨fun a => by
  cases a with
  | none => exact Nat.zero_le _
  | some a => exact h.le a⟩
end LK
set_option Elab.async false
set_option linter.all false
set_option maxRecDepth 100000
set_option maxHeartbeats 4000000
set_option autoImplicit false
namespace LJ
open PySem L2 LK LKX LKB PyProof.Rows PySem.Spec
section
end
section
end
end LJ
namespace LJ
open PySem L2 LK LKX LKB PyProof.Rows PySem.Spec
end LJ
set_option autoImplicit true
set_option maxRecDepth 100000
open PySem L2 LK LKX LKB PyProof.Rows PySem.Spec
namespace LKB
section
open PySem.W
end
section
end
end LKB
namespace LJ
section
end
end LJ
set_option Elab.async false
set_option linter.all false
set_option maxRecDepth 100000
set_option maxHeartbeats 4000000
set_option autoImplicit false
namespace LJ
open PySem L2 LK LKX LKB PyProof.Rows PySem.Spec
section
end
end LJ
set_option Elab.async false
set_option linter.all false
set_option maxRecDepth 100000
set_option maxHeartbeats 4000000
set_option autoImplicit false
namespace LJ
open PySem L2 LK LKX LKB PyProof.Rows PySem.Spec
section
end
section
end
end LJ
set_option Elab.async false
set_option linter.all false
set_option maxRecDepth 100000
set_option maxHeartbeats 4000000
set_option autoImplicit false
namespace LJ
open PySem L2 LK LKX LKB PyProof.Rows PySem.Spec
section
end
end LJ
set_option Elab.async false
set_option linter.all false
set_option maxRecDepth 100000
set_option autoImplicit false
namespace R
variable {ε δ α β : Type}
theorem bindOk (a : α) (k : α → R ε β) : (R.ok a : R ε α).bind k = k a := Eq.trans rfl rfl
theorem bindEr (e : ε) (k : α → R ε β) : (R.er e : R ε α).bind k = .er e := Eq.trans rfl rfl
theorem bindNo (k : α → R ε β) : (R.no : R ε α).bind k = .no := Eq.trans rfl rfl
theorem thnOk (a : α) (g : ε → δ) (k : α → R δ β) : (R.ok a : R ε α).thn g k = k a := Eq.trans rfl rfl
theorem thnEr (e : ε) (g : ε → δ) (k : α → R δ β) : (R.er e : R ε α).thn g k = .er (g e) := Eq.trans rfl rfl
theorem thnNo (g : ε → δ) (k : α → R δ β) : (R.no : R ε α).thn g k = .no := Eq.trans rfl rfl
theorem noerOk (a : α) : (R.ok a : R ε α).noer = (R.ok a : R δ α) := Eq.trans rfl rfl
end R
set_option Elab.async false
set_option linter.all false
set_option maxRecDepth 100000
set_option maxHeartbeats 4000000
set_option autoImplicit false
namespace LJ
open PySem L2 LK LKX LKB PyProof.Rows PySem.Spec
/-- a class whose last parameters may be given by keywords -/
structure CalIK (K : PySem.W.Frag) (mg : Str → Option Value) (C f : Addr) (x : Str) (fd : FuncData) (ps : List Str) (dvs : List V) (n : Nat) (ks : List Str) : Prop where
  ci : CalI K mg C f x fd ps dvs
  kb : KBn K fd ps (n + 1) ks (fun us ws => us ++ ws) (fun vs zs => vs ++ zs)
section
variable {X : Cx} {CX : CXT} {k n0 : Nat} {f C : Addr} {fd : FuncData} {ps ks : List Str} {sp : Sp} {E : L2.St → XK} {x : Str} {p pos : Pos} {e : Expr} {es : List Expr} {kws : List Keyword} {t tk : TA}
def tMakeKS (C : Addr) (sp : Sp) (n m : Nat) (E : L2.St → XK) (t tk : TA) : TE := fun σ H Q => t σ H fun vs H1 => tk σ H1 fun zs H2 => vs.length = n ∧ zs.length = m ∧ ∀ x dx, H2 x = none → H2 dx = none → dx ≠ x →
  sp (.ref x :: (vs ++ zs)) (upd (upd H2 dx (.own x)) x (.ins C dx [])) (fun v H3 => v = .non ∧ Q (.ref x) H3) (E σ)
theorem run_makeKS {pins : List (Addr × Obj)} {σ : L2.St} {H : Hp} {s : Shared} {Q : VK} {us ws : List Value} {vs zs : List V} (M : Mk X.K C f) (F : FnOk X.prog X.w X.K X.mg X.base CX k f fd ps sp) (hr : Room (k + 1) X.A) (hb : KBn X.K fd ps (n0 + 1) ks (fun us ws => us ++ ws) (fun vs zs => vs ++ zs))
    (hx : PassesAt CX X σ (E σ)) (I : Inv X pins σ H s) (r : Vals vs us) (rz : Vals zs ws) (l1 : vs.length = n0) (l2 : zs.length = ks.length)
    (h : ∀ x dx, H x = none → H dx = none → dx ≠ x → sp (.ref x :: (vs ++ zs)) (upd (upd H dx (.own x)) x (.ins C dx [])) (fun v H2 => v = .non ∧ Q (.ref x) H2) (E σ)) :
    wpAny (model X.prog X.w) X.A (call (.ref C) us (ks.zip ws)) (EP X pins σ Q) X.xe s := by
  have hq := h (s.heap.objs.size + 1) s.heap.objs.size (I.hok.fresh (Nat.le_succ _)) (I.hok.fresh (Nat.le_refl _)) (Nat.ne_of_lt (Nat.lt_succ_self _))
  have I2 := Inv.made (C := C) I
  have r1 : Vals (V.ref (s.heap.objs.size + 1) :: vs) (Value.ref (s.heap.objs.size + 1) :: us) := .cons rfl r
  have r2 := hb.rel r1 rz
  have e1 : (Value.ref (s.heap.objs.size + 1) :: us).length = n0 + 1 := r1.length.symm.trans (congrArg Nat.succ l1)
  have e2 : ws.length = ks.length := rz.length.symm.trans l2
  refine wpAny_call (make_map (f := f) I.kIn M.makes M.init (beq_iff_eq.mp M.fn) (codeAny_mono (F.run _ X.stack _ _ ⟨Value.ref (s.heap.objs.size + 1) :: us, ks.zip ws⟩ ((Value.ref (s.heap.objs.size + 1) :: us) ++ ws) _ _ (E σ) (hr.make C us (ks.zip ws))
    (I2.env0.make C us (ks.zip ws)) (hb.to _ (Value.ref (s.heap.objs.size + 1) :: us) ws I2.kIn e1 e2) r2 hq) fun r s' hq' => ?_))
  cases r with
  | error e => exact hx pins _ _ e s' I2 hq'
  | ok fl =>
    cases fl with
    | ret u =>
      obtain ⟨v, H', I3, rv, ev, q3⟩ := I2.after hq'
      subst ev
      exact ⟨rv, ⟨V.ref (s.heap.objs.size + 1), H', I3, rfl, q3⟩⟩
    | next => exact False.elim hq'
    | brk => exact False.elim hq'
    | cont => exact False.elim hq'
theorem pe_makeKS (M : Mk X.K C f) (F : FnOk X.prog X.w X.K X.mg X.base CX k f fd ps sp) (hr : Room (k + 1) X.A) (hg : Gl X x) (hm : X.mg x = some (.ref C)) (hb : KBn X.K fd ps (n0 + 1) ks (fun us ws => us ++ ws) (fun vs zs => vs ++ zs)) (hx : ∀ σ, PassesAt CX X σ (E σ))
    (ha : PA X (e :: es) t) (hkw : PK X kws tk) (hall : (backToKw pos (keywordEach kws X.env)).all (·.1.isSome) = true := by rfl) (hks : (backToKw pos (keywordEach kws X.env)).filterMap (·.1) = ks := by rfl)
    (hdb : (x == ("__debug__" : Str)) = false := by decide) (he : starEach (e :: es) X.env = (false, eval e X.env) :: starEach es X.env := by rfl)
    (hpl : ((backTo pos (starEach (e :: es) X.env)).any (·.1) || (backToKw pos (keywordEach kws X.env)).any (·.1.isNone)) = false := by rfl) :
    PE X (.Call (.Name x p) (e :: es) kws pos) (tMakeKS C sp n0 ks.length E t tk) := by
  refine ⟨fun pins s σ H Q I h => ?_⟩
  refine wpAny_Call_Name_kw (ld_glob I hg hm ?_ hdb)
  refine PySem.W.callWith_KW (h₀ := X.base) I.ok.mod.kin M.kp hall (thn (ha.run pos pins s σ H _ I h) fun us s1 ⟨vs, H1, I1, r, q⟩ => ?_) hpl he
  refine thn (hkw.run pos pins s1 σ H1 _ I1 q) fun ws s2 ⟨zs, H2, I2, rz, l1, l2, q2⟩ => ⟨I2.kIn, ?_⟩
  rw [hks]
  exact run_makeKS M F hr hb (hx σ) I2 r rz l1 l2 q2
end
section
variable {C : Cn} {G : List LK.Slot} {m : Md} {e : Expr} {kws : List Keyword} {x : Str} {p pos : Pos}
/-- C(e, k = v): two parameters, the last by its name -/
theorem xmkK {γ α δ ζ : Type} {C0 : Addr} {m1 : Md} {r1 : Rp γ} [i1 : Mo r1] {P2 : Pt α} {fn : Unit → γ × α → R (Er × ζ) δ} {mv : Option Addr → δ → Mu} [pn : Pin mv] {se : Option Addr → ζ → LK.Slot} {g1 : R Er (γ × Unit)} {g2 : R Er α} {k n : Nat} {f : Addr} {fd : FuncData} {ps ks : List Str} {dvs : List V} (I : CalIK C.X.K C.X.mg C0 f x fd ps dvs 1 ks)
    (Fo : FnOk C.X.prog C.X.w C.X.K C.X.mg C.X.base (L2.CX C.X.prog C.X.w) k f fd ps (spM C.T (m0 C0) (.cons m1 r1 i1 P2) fn (fun o d => .ow (mv o d) (pn.mo o d)) se)) (hr : Room n C.X.A) (ha : XA C [e] G (.cons m1 r1 i1 .nil) g1) (hw : XKw C kws G P2 g2)
    (hc : P2.count = ks.length := by rfl) (hk : k + 1 ≤ n := by decide) (hg : Gl C.X x := by rfl) (hdb : (x == ("__debug__" : Str)) = false := by decide)
    (hall : (backToKw pos (keywordEach kws C.X.env)).all (·.1.isSome) = true := by rfl) (hks : (backToKw pos (keywordEach kws C.X.env)).filterMap (·.1) = ks := by rfl)
    (he : starEach [e] C.X.env = (false, eval e C.X.env) :: starEach [] C.X.env := by exact star_cons rfl) (hpl : ((backTo pos (starEach [e] C.X.env)).any (·.1) || (backToKw pos (keywordEach kws C.X.env)).any (·.1.isNone)) = false := by rfl) :
    XN C (.Call (.Name x p) [e] kws pos) G (fun d => .ow (mv none d) (pn.mo none d)) (g1.bind fun a => g2.bind fun b => mkR (fn () (a.1, b))) := ⟨fun F0 H0 => by
  have ha := ha.h F0 H0; have hw := hw.h F0 H0
  refine Ds.le (t := tMakeKS C0 (spM C.T (m0 C0) (.cons m1 r1 i1 P2) fn (fun o d => .ow (mv o d) (pn.mo o d)) se) 1 ks.length (WE C.W) (tA C.X [e]) (tK C.X kws)) ?_ fun _ _ _ q => tE_le (pe_makeKS I.ci.mm Fo (hr.mono hk) hg I.ci.gm I.kb (fun σ => passAt C.tk σ) pA pK hall hks hdb he hpl) q
  cases g1 with
  | no => trivial
  | er y => exact fun σ F H E w Q => ha σ F H E w _
  | ok a =>
    cases g2 with
    | no => trivial
    | er y => exact fun σ F H E w Q => ha σ F H E _ fun vs F1 H1 g1 h1 => hw σ F1 H1 (E.gro g1) (fun F' H' cls d g z => w F' H' cls d (g1.trans g) z) _
    | ok b =>
      have key : ∀ {vs zs : List V} {F1 H1 F2 H2 : Hp}, (Pt.cons m1 r1 i1 .nil).ra F1 H0 H1 vs a → Gr F1 H1 F2 H2 → P2.ra F2 H0 H2 zs b → (Pt.cons m1 r1 i1 P2).ra F2 H0 H2 (vs ++ zs) (a.1, b) ∧ vs.length = 1 := by
        intro vs zs F1 H1 F2 H2 h1 g2 h2
        obtain ⟨v, us, e1, hv, hu⟩ := h1
        have hu : us = [] := hu
        subst hu
        subst e1
        exact ⟨⟨v, zs, rfl, i1.ex (pk_mono m1 g2) hv, h2⟩, rfl⟩
      show Ds C F0 H0 _ G _ (mkR (fn () (a.1, b)))
      cases hf : fn () (a.1, b) with
      | no => trivial
      | er y => exact fun σ F H E w Q => ha σ F H E _ fun vs F1 H1 g1 h1 => hw σ F1 H1 (E.gro g1) _ fun zs F2 H2 g2 h2 => ⟨(key h1 g2 h2).2, (P2.length h2).trans hc, spM_make g2.fh (Pt.now (.cons m1 r1 i1 P2) ((E.gr.trans g1).trans g2) (key h1 g2 h2).1) (by rw [hf]; exact fun z => nomatch z) (fun d hd => by rw [hf] at hd; cases hd) (fun er z he cls dd F3 H3 g3 r => by
            rw [hf] at he; cases he
            exact w F3 H3 cls dd ((g1.trans g2).trans g3) r)⟩
      | ok d => exact fun σ F H E Q q => ha σ F H E _ fun vs F1 H1 g1 h1 => hw σ F1 H1 (E.gro g1) _ fun zs F2 H2 g2 h2 => ⟨(key h1 g2 h2).2, (P2.length h2).trans hc, spM_make g2.fh (Pt.now (.cons m1 r1 i1 P2) ((E.gr.trans g1).trans g2) (key h1 g2 h2).1) (by rw [hf]; exact fun z => nomatch z) (fun d' hd p F3 H3 E3 => by
            rw [hf] at hd; cases hd
            exact q _ F3 H3 ((g1.trans g2).trans E3.gr) (envRebase (g1.trans g2) E3 trivial)) (fun er z he => by rw [hf] at he; cases he)⟩⟩
end
end LJ
namespace LK
open PySem L2 LKX LKB PyProof.Rows PySem.Spec
/-- a datum that stands may be kept: tuples of flat things -/
class Lf {α : Type} (r : Rp α) : Prop where
  late : ∀ {F H : Hp} {v : V} {a : α}, Ex F H → r H v a → ∃ F', Gr F H F' H ∧ r F' v a
instance {α : Type} (r : Rp α) [Fl r] : Lf r := ⟨fun {F H v a} e h => ⟨F, Gr.refl e, Fl.fl h⟩⟩
instance {α β : Type} (r : Rp α) (s : Rp β) [Mo r] [Lf r] [Mo s] [Lf s] : Lf (rPr r s) := ⟨fun {F H v x} e ⟨p, u, w, h1, h2, h3, h4⟩ => by
  have g1 := Gr.tup e h2
  obtain ⟨F2, g2, k2⟩ := Lf.late (r := r) g1.fh h3
  obtain ⟨F3, g3, k3⟩ := Lf.late (r := s) g2.fh h4
  exact ⟨F3, (g1.trans g2).trans g3, p, u, w, h1, g3.ff _ _ (g2.ff _ _ upd_same), mox g3.ff k2, k3⟩⟩
theorem late_all {α : Type} {r : Rp α} [Mo r] [Lf r] {H : Hp} {vs : List V} {xs : List α} (h : Paired (r H) vs xs) : ∀ {F : Hp}, Ex F H → ∃ F', Gr F H F' H ∧ Paired (r F') vs xs := by
  induction h with
  | nil => exact fun {F} e => ⟨F, Gr.refl e, .nil⟩
  | cons h t ih =>
    intro F e
    obtain ⟨F1, g1, k1⟩ := Lf.late (r := r) e h
    obtain ⟨F2, g2, k2⟩ := ih g1.fh
    exact ⟨F2, g1.trans g2, .cons (mox g2.ff k1) k2⟩
theorem en_listQf {α : Type} {r : Rp α} [Mo r] [Lf r] {K : PySem.W.Frag} {F0 H0 : Hp} {ta : TE} {G : List Slot} {m1 : Md} {xs : List α} (hx : Ed F0 H0 ta G m1 (rSq K r) xs) : En F0 H0 (tCB (rListQ K) (tCons ta tNil)) G r xs :=
  en_c1 hx fun v F H g0 hv Q q => by
    obtain ⟨p, vs, rfl, h1, h2, h3⟩ := hv
    obtain ⟨F', gl, h4⟩ := late_all (pmap (fun _ _ z => mox (pk_now g0) z) h3) g0.fh
    exact ⟨p, vs, rfl, h1.elim (fun z => .inl (sqL_now (pk_now g0) z)) (fun z => .inr (sqT_now (pk_now g0) z)), fun l hl => q l vs F' _ (gl.trans (Gr.wild gl.fh hl)) hl (gl.fh.back hl) upd_same h2 h4⟩
end LK
namespace LJ
open PySem L2 LK LKX LKB PyProof.Rows PySem.Spec
theorem had1b {α β : Type} {r : Rp α} {ir : Mo r} {q : Rp β} {iq : Mo q} {dv : V} {d0 : β} (h : ∀ F, q F dv d0) : ∀ F H0 H vs (b : α × Unit), (Pt.cons .sh r ir .nil).ra F H0 H vs b → (Pt.cons .sh r ir (.cons .bo q iq .nil)).ra F H0 H (vs ++ [dv]) (b.1, d0, ()) := fun F H0 H vs b ⟨v, us, e1, h1, e2⟩ => by
  have e2 : us = [] := e2
  subst e1; subst e2
  exact ⟨v, [dv], rfl, h1, dv, [], rfl, h H, rfl⟩
section
variable {C : Cn} {G : List LK.Slot} {m1 : Md} {a : Expr} {pos p : Pos}
/-- list(e), the items are kept late -/
theorem xlistQf {α : Type} {r : Rp α} [Mo r] [Lf r] {f : R Er (List α)} (ha : XE C a G m1 (rSq C.X.K r) f) (hm : C.X.mg "list" = none) (hg : Gl C.X "list" := by rfl) (he : starEach [a] C.X.env = (false, eval a C.X.env) :: starEach [] C.X.env := by exact star_cons rfl) (hpl : (backTo pos (starEach [] C.X.env)).any (·.1) = false := by rfl) :
    XN C (.Call (.Name "list" p) [a] [] pos) G (fun xs => sL r xs) (f.bind fun x => .ok x) := x1n ha (pTy call_list_of hm (by decide +kernel) hg (by decide) (by decide) he hpl) (fun _ _ _ z σ F H E w Q => z σ F H E w _) fun _ _ x h => dv_en (en_listQf h)
end
end LJ
set_option Elab.async false
set_option linter.all false
set_option maxRecDepth 100000
set_option maxHeartbeats 4000000
set_option autoImplicit false
namespace LG
open PySem PySem.Spec PyProof.Rows L2 GenW
section
variable {X : Cx} {c tg : Expr} {a b : List Stmt} {pos : Pos}
def tGIf (tc : TT) (t u : TGn) : TGn := fun D ys σ H => tc σ H fun d H1 => if d = true then t D ys σ H1 else u D ys σ H1
theorem gs_if {tc : TT} {t u : TGn} (hc : PT X c tc) (ha : GSs X a t) (hb : GSs X b u) : GS X (.If c a b pos) (tGIf tc t u) := by
  refine ⟨fun A S ip R n ys s₀ cd fs K J gd lv s σ H D g hn k hI ht => ?_⟩
  have ee : exec (.If c a b pos) X.env = (standAt pos >>= fun _ => isTrue c X.env (eval c X.env) >>= fun d => if d = true then execs a X.env else execs b X.env) := rfl
  rw [ee]
  refine seg_bind_wrap (wpAny_standAt ?_)
  obtain ⟨acc, cc, r, I⟩ := hI
  refine seg_bind_wrap ?_
  rw [g.over]
  refine wpAny_mono (hc.run _ s σ H _ I ht) (fun d s1 hd => ?_) fun x s1 hx => k.exc n s₀ x s1 hx
  obtain ⟨H1, I1, q⟩ := hd
  cases d with
  | true =>
    rw [if_pos rfl] at q ⊢
    exact ha.run A S ip R n ys s₀ cd fs K J gd lv s1 σ H1 D g hn k ⟨acc, cc, r, I1⟩ q
  | false =>
    rw [if_neg Bool.false_ne_true] at q ⊢
    exact hb.run A S ip R n ys s₀ cd fs K J gd lv s1 σ H1 D g hn k ⟨acc, cc, r, I1⟩ q
def tGFor (wi : TI) (g : TG) (tb : TGn) : TGn := fun D ys σ H => wi σ H fun J H1 => ∃ W : Nat → Nat → List V → L2.St → Hp → Prop, (∃ m, W 0 m ys σ H1) ∧ ∀ i m ys σ H, W i m ys σ H →
  (J.stop i H ∧ D.nx ys σ H) ∨ (J.go i H ∧ ∃ N : List V → L2.St → Hp → Prop, (∀ ys' σ' H', N ys' σ' H' → ∃ m', m' < m ∧ W (i + 1) m' ys' σ' H') ∧ ∀ x H', J.yld i H x H' → g x σ H' fun σ2 H2 => tb ⟨N, D.rt, D.nx, N⟩ ys σ2 H2)
/-- the loop's turns -/
theorem seg_turns {body : List Stmt} {g : TG} {tb : TGn} {S it : Addr} {ip : List (Addr × Obj)} {A : Around} {R : GenEnd} {cd : Code} {fs : List Frame} {K : Flow → Sem PySem.Fin} {J0 : Value → Sem PySem.Fin} {gd : Bool → Bool} {lv : List Value → List Value} {D : GEnds} {p : Pos} {fp : List Addr} {tn : Nat → Heap → Prop} {J : It} {W : Nat → Nat → List V → L2.St → Hp → Prop}
    (hp : PassesOwn (model X.prog X.w) X.A X.env X.xe) (hc : X.calm = true) (hg : PG X tg g) (hb : GSs X body tb) (gc : GC X S ip A cd fs gd) (k : GK X S ip A R cd fs K J0 D) (T : Turn X.prog X.w X.K tg J fp it tn)
    (hf : ∀ b ∈ fp, b ≠ X.env.locals ∧ b ∉ X.fs ∧ (b ∈ X.ex ∨ X.s_0.heap.objs.size ≤ b) ∧ (∀ x c, X.env.cells.lookup x = some c → c ≠ b) ∧ (∀ p ∈ X.pn ++ ip, p.1 ≠ b) ∧ S ≠ b)
    (turn : ∀ i m ys σ H, W i m ys σ H → (J.stop i H ∧ D.nx ys σ H) ∨ (J.go i H ∧ ∃ N : List V → L2.St → Hp → Prop, (∀ ys' σ' H', N ys' σ' H' → ∃ m', m' < m ∧ W (i + 1) m' ys' σ' H') ∧ ∀ x H', J.yld i H x H' → g x σ H' fun σ2 H2 => tb ⟨N, D.rt, D.nx, N⟩ ys σ2 H2)) :
    ∀ (m i n : Nat) (ys : List V) (s₀ s : Shared) (σ : L2.St) (H : Hp), n + ys.length = sizeLine → W i m ys σ H → GI X S ip ys σ H s → tn i s.heap → (∀ b ∈ fp, H b = none) →
      Seg (model X.prog X.w) A R (GY X S) n s₀ (.forLoop tg (.ref it) body [] X.env) ((model X.prog X.w).den (.forLoop tg (.ref it) body [] X.env))
        (.ret (fun r => ((match r with | .ok f => (.pure f : Sem Flow) | .error e => .raise e).onRaise (cameBack X.env)).wrap K J0 gd lv) none (gd false) (lv []) cd p [] :: fs) s := by
  have gl := fun (kk : Result → Sem PySem.Fin) => gc_loop (k := kk) (c' := .forLoop tg (.ref it) body [] X.env) (l := lv []) (kp := []) (p := p) gc rfl rfl
  have gb := fun (kk : Result → Sem PySem.Fin) => gc_loop (k := kk) (c' := .block [] X.env) (l := lv []) (kp := []) (p := p) gc rfl rfl
  have bad : ∀ (n : Nat) (s₀ : Shared) (x : Value) (s' : Shared), X.xe x s' → Seg (model X.prog X.w) A R (GY X S) n s₀ (.forLoop tg (.ref it) body [] X.env) ((do noteFrame x X.env; theTreesLotGoes x : Sem Unit).wrap (fun _ => .raise x) .raise id id)
      (.ret (fun r => ((match r with | .ok f => (.pure f : Sem Flow) | .error e => .raise e).onRaise (cameBack X.env)).wrap K J0 gd lv) none (gd false) (lv []) cd p [] :: fs) s' := fun n s₀ x s' hx => by
    refine seg_wrap ?_
    rw [(gl _).over]
    refine wpAny_bind (wpAny_mono (hp x s' hx) (fun _ s2 h2 => wpAny_theTreesLotGoes ?_) fun y s2 h2 => ?_)
    · exact seg_leaf (.error x) (seg_cameBack gc k h2)
    · exact seg_leaf (.error y) (seg_cameBack gc k h2)
  intro m
  induction m using Nat.strongRecOn with
  | ind m ih =>
    intro i n ys s₀ s σ H hn w hI st hno
    obtain ⟨acc, cc, r, I⟩ := hI
    have fine : ∀ {acc : Array Value} {cc : Nat} {H' : Hp}, (∀ b ∈ fp, H' b = none) → ∀ b ∈ fp, FpOk X ((S, lstObj acc cc) :: ip) H' b := fun h b hb => by
      obtain ⟨f1, f2, f3, f4, f5, f6⟩ := hf b hb
      refine ⟨h b hb, f1, f2, f3, f4, fun q hq => ?_⟩
      rcases List.mem_append.mp hq with z | z
      · exact f5 q (List.mem_append_left _ z)
      · rcases List.mem_cons.mp z with z | z
        · rw [z]; exact f6
        · exact f5 q (List.mem_append_right _ z)
    show Seg _ A R (GY X S) n s₀ _ ((forTurn tg (.ref it) body [] X.env).onRaise (fun x => do noteFrame x X.env; theTreesLotGoes x)) _ s
    rw [Sem.onRaise_eq_wrap]
    have rr : ∀ x : Value, ((do noteFrame x X.env; theTreesLotGoes x : Sem Unit) >>= fun _ => (Sem.raise x : Sem PySem.Fin)) = (do noteFrame x X.env; theTreesLotGoes x : Sem Unit).wrap (fun _ => .raise x) .raise id id := fun x => by
      first | exact Sem.bind_eq_wrap _ _ | (show (do noteFrame x X.env; theTreesLotGoes x : Sem Unit).bind (fun _ => .raise x) = _; rw [Sem.bind_eq_wrap])
    have bad' : ∀ (n : Nat) (s₀ : Shared) (x : Value) (s' : Shared), X.xe x s' → Seg (model X.prog X.w) A R (GY X S) n s₀ (.forLoop tg (.ref it) body [] X.env) ((do noteFrame x X.env; theTreesLotGoes x : Sem Unit) >>= fun _ => (Sem.raise x : Sem PySem.Fin))
      (.ret (fun r => ((match r with | .ok f => (.pure f : Sem Flow) | .error e => .raise e).onRaise (cameBack X.env)).wrap K J0 gd lv) none (gd false) (lv []) cd p [] :: fs) s' := fun n s₀ x s' hx => by
      rw [rr]; exact bad n s₀ x s' hx
    unfold forTurn
    refine seg_bind_wrap (wpAny_standAt ?_)
    refine seg_bind_wrap ?_
    rw [(gl _).over]
    rcases turn i m ys σ H w with ⟨stop, qn⟩ | ⟨go, N, hN, step⟩
    · refine wpAny_onRaise (wpAny_mono (T.done X rfl rfl rfl hc i _ s σ H X.xe I (fine hno) st stop) (fun r1 s1 h1 => ?_) fun x s1 hx => wpAny_standAt (bad' n s₀ x s1 hx))
      obtain ⟨e, I1⟩ := h1
      subst e
      refine seg_again rfl ?_
      show Seg _ A R (GY X S) n s₀ _ ((execs [] X.env) >>= fun f => (.pure (.done f) : Sem PySem.Fin)) _ s1
      refine seg_leaf (.ok .next) ?_
      exact k.ok n ys s₀ s1 .next hn ⟨σ, H, ⟨acc, cc, r, I1⟩, qn⟩
    · refine wpAny_onRaise (wpAny_mono (T.item X rfl rfl rfl hc i _ s σ H X.xe I (fine hno) st go) (fun r1 s1 h1 => ?_) fun x s1 hx => wpAny_standAt (bad' n s₀ x s1 hx))
      obtain ⟨u, e, h1⟩ := h1
      subst e
      refine seg_bind_wrap ?_
      rw [(gl _).over]
      refine wpAny_mono h1 (fun _ s2 h2 => ?_) fun x s2 hx => bad' n s₀ x s2 hx
      obtain ⟨x, H2, I2, rx, yx, st2, no2⟩ := h2
      refine seg_bind_wrap ?_
      rw [(gl _).over]
      have I2' := I2.pinned (fine no2) (T.obj _ _ st2)
      refine wpAny_mono (hg.run _ s2 σ H2 x u _ I2' rx (step x H2 yx)) (fun _ s3 h3 => ?_) fun x s3 hx => bad' n s₀ x s3 hx
      obtain ⟨σ3, H3, I3, q3⟩ := h3
      rw [Sem.bind_eq_wrap', Sem.wrap_wrap]
      have gc' : GC X S (ip ++ pinsAt fp s2.heap) A (.forLoop tg (.ref it) body [] X.env) (.ret (fun r => ((match r with | .ok f => (.pure f : Sem Flow) | .error e => .raise e).onRaise (cameBack X.env)).wrap K J0 gd lv) none (gd false) (lv []) cd p [] :: fs) id :=
        ⟨gc.pn, fun q hq => (List.mem_append.mp hq).elim (fun z => gc.ip q z) fun z => Ne.symm (hf q.1 (of_pinsAt z).1).2.2.2.2.2, gc.apart, (gl (fun r => ((match r with | .ok f => (.pure f : Sem Flow) | .error e => .raise e).onRaise (cameBack X.env)).wrap K J0 gd lv)).over, (gl (fun r => ((match r with | .ok f => (.pure f : Sem Flow) | .error e => .raise e).onRaise (cameBack X.env)).wrap K J0 gd lv)).split, (gl (fun r => ((match r with | .ok f => (.pure f : Sem Flow) | .error e => .raise e).onRaise (cameBack X.env)).wrap K J0 gd lv)).guard, rfl⟩
      refine hb.run A S (ip ++ pinsAt fp s2.heap) R n ys s₀ _ _ _ _ id id s3 σ3 H3 ⟨N, D.rt, D.nx, N⟩ gc' hn ⟨fun n' ys' s₀' s4 fl hn' h4 => ?_, fun n' s₀' x s4 hx => bad' n' s₀' x s4 hx⟩ ⟨acc, cc, r, I3⟩ q3
      have back : ∀ {σ4 : L2.St} {H4 : Hp}, GI X S (ip ++ pinsAt fp s2.heap) ys' σ4 H4 s4 → GI X S ip ys' σ4 H4 s4 := fun {σ4 H4} ⟨acc4, cc4, r4, I4⟩ => ⟨acc4, cc4, r4, Inv.unpinned (pl := pinsAt fp s2.heap) (show Inv X (((S, lstObj acc4 cc4) :: ip) ++ pinsAt fp s2.heap) σ4 H4 s4 from I4)⟩
      have next : ∀ {σ4 : L2.St} {H4 : Hp}, GI X S (ip ++ pinsAt fp s2.heap) ys' σ4 H4 s4 → N ys' σ4 H4 → Seg (model X.prog X.w) A R (GY X S) n' s₀' (.forLoop tg (.ref it) body [] X.env) (.pure (.again (.forLoop tg (.ref it) body [] X.env)))
          (.ret (fun r => ((match r with | .ok f => (.pure f : Sem Flow) | .error e => .raise e).onRaise (cameBack X.env)).wrap K J0 gd lv) none (gd false) (lv []) cd p [] :: fs) s4 := fun {σ4 H4} hI4 n4 => by
        obtain ⟨m', hm, w4⟩ := hN ys' σ4 H4 n4
        have pin4 : ∀ b ∈ fp, ∀ o, s2.heap.get? b = some o → s4.heap.get? b = some o ∧ H4 b = none := fun b hb o e => by
          obtain ⟨acc4, cc4, _, I4⟩ := hI4
          have := I4.pin (b, o) (List.mem_append_right _ (List.mem_cons_of_mem _ (List.mem_append_right _ (mem_pinsAt hb e))))
          exact ⟨this.1, this.2.1⟩
        refine seg_again rfl (ih m' hm (i + 1) n' ys' s₀' s4 σ4 H4 hn' w4 (back hI4) (T.keep _ _ _ st2 fun b hb o e => (pin4 b hb o e).1) fun b hb => ?_)
        obtain ⟨o, e, _⟩ := T.obj _ _ st2 b hb
        exact (pin4 b hb o e).2
      cases fl with
      | next => obtain ⟨σ4, H4, hI4, n4⟩ := h4; exact next hI4 n4
      | cont => obtain ⟨σ4, H4, hI4, n4⟩ := h4; exact next hI4 n4
      | brk =>
        obtain ⟨σ4, H4, hI4, n4⟩ := h4
        exact seg_leaf (.ok .next) (k.ok n' ys' s₀' s4 .next hn' ⟨σ4, H4, back hI4, n4⟩)
      | ret v =>
        obtain ⟨v4, σ4, H4, hI4, rv4, n4⟩ := h4
        exact seg_leaf (.ok (.ret v)) (k.ok n' ys' s₀' s4 (.ret v) hn' ⟨v4, σ4, H4, back hI4, rv4, n4⟩)
theorem gs_for {iter : Expr} {body : List Stmt} {wi : TI} {g : TG} {tb : TGn} (hp : PassesOwn (model X.prog X.w) X.A X.env X.xe) (hc : X.calm = true) (hi : PI X tg iter wi) (hg : PG X tg g) (hb : GSs X body tb) (hs : ∀ x, foldedSetIterable iter X.env x = pure x := by intro _; rfl) :
    GS X (.For tg iter body [] pos) (tGFor wi g tb) := by
  refine ⟨fun A S ip R n ys s₀ cd fs K J gd lv s σ H D gc hn k hI ht => ?_⟩
  rw [exec_For]
  refine seg_bind_wrap (wpAny_standAt ?_)
  obtain ⟨acc, cc, r, I⟩ := hI
  refine seg_bind_wrap ?_
  rw [gc.over]
  refine wpAny_mono (hi.run _ s σ H _ I ht) (fun v s1 h1 => ?_) fun x s1 hx => k.exc n s₀ x s1 hx
  refine seg_bind_wrap (wpAny_of_eq (hs v) ?_)
  refine seg_bind_wrap (wpAny_standAt ?_)
  refine seg_bind_wrap (wpAny_holding ?_)
  rw [gc.over]
  refine wpAny_mono h1 (fun itv s2 h2 => ?_) fun x s2 hx => k.exc n s₀ x s2 hx
  obtain ⟨it, fp, tn, J1, H2, e, I2, T, st2, f2, W, ⟨m0, w0⟩, turn⟩ := h2
  subst e
  refine seg_call fun p => ?_
  refine seg_turns hp hc hg hb gc k T (fun b hb => ?_) turn m0 0 n ys s₀ s2 σ H2 hn w0 ⟨acc, cc, r, I2⟩ st2 fun b hb => (f2 b hb).1
  obtain ⟨_, a1, a2, a3, a4, a5⟩ := f2 b hb
  exact ⟨a1, a2, a3, a4, fun q hq => a5 q (by
    rcases List.mem_append.mp hq with z | z
    · exact List.mem_append_left _ z
    · exact List.mem_append_right _ (List.mem_cons_of_mem _ z)), a5 (S, lstObj acc cc) (List.mem_append_right _ List.mem_cons_self)⟩
end
end LG
set_option Elab.async false
set_option linter.all false
set_option maxRecDepth 100000
set_option maxHeartbeats 4000000
set_option autoImplicit false
namespace LG
open PySem PySem.Spec PyProof.Rows L2 GenW LK LKX LKB LJ
/-- canonical readings -/
def tY (X : Cx) (st : List Stmt) : TGn := fun D ys σ H => ∀ (A : Around) (S : Addr) (ip : List (Addr × Obj)) (R : GenEnd) (n : Nat) (s₀ : Shared) (c : Code) (fs : List Frame) (K : Flow → Sem PySem.Fin) (J : Value → Sem PySem.Fin) (gd : Bool → Bool) (lv : List Value → List Value) (s : Shared),
  GC X S ip A c fs gd → n + ys.length = sizeLine → GK X S ip A R c fs K J D → GI X S ip ys σ H s → Seg (model X.prog X.w) A R (GY X S) n s₀ c ((execs st X.env).wrap K J gd lv) fs s
theorem pY {X : Cx} {st : List Stmt} : GSs X st (tY X st) := ⟨fun A S ip R n ys s₀ c fs K J gd lv s σ H D g hn k hI ht => ht A S ip R n s₀ c fs K J gd lv s g hn k hI⟩
theorem tY_le {X : Cx} {st : List Stmt} {t : TGn} (h : GSs X st t) {D : GEnds} {ys : List V} {σ : L2.St} {H : Hp} (q : t D ys σ H) : tY X st D ys σ H := fun A S ip R n s₀ c fs K J gd lv s g hn k hI => h.run A S ip R n ys s₀ c fs K J gd lv s σ H D g hn k hI q
/-- at these slots, with this handed out -/
def GkY (F0 H0 : Hp) {β : Type} (r : Rp β) (t : List V → L2.St → Hp → Prop) (G : List LK.Slot) (zs : List β) : Prop := ∀ σ F H ys, EnvOk F0 H0 G σ F H → Paired (r F) ys zs → zs.length ≤ 16777216 → t ys σ H
structure AnsY (C : Cn) {β : Type} (F0 H0 : Hp) (A : R Er (List β) → Prop) : Prop where
  no : ¬ A .no
  er : ∀ e, A (.er e) → ∀ σ F H cls d, Gr F0 H0 F H → rEr C.T F cls d e → C.W cls d σ H
structure XY (C : Cn) {β S' : Type} (r : Rp β) (st : List Stmt) (G : List LK.Slot) (slk : S' → List LK.Slot) (M : (S' → List β → R Er (List β)) → List β → R Er (List β)) : Prop where
  h : ∀ (F0 H0 : Hp) (A : R Er (List β) → Prop) (D : GEnds), AnsY C F0 H0 A → ∀ k : S' → List β → R Er (List β), (∀ s' zs, A (k s' zs) → GkY F0 H0 r D.nx (slk s') zs) → ∀ zs, A (M k zs) → GkY F0 H0 r (tY C.X st D) G zs
theorem XY.cast {C : Cn} {β S' : Type} {r : Rp β} {st : List Stmt} {G : List LK.Slot} {slk : S' → List LK.Slot} {M M' : (S' → List β → R Er (List β)) → List β → R Er (List β)} (h : XY C r st G slk M) (e : ∀ k zs, M k zs = M' k zs) : XY C r st G slk M' := by
  have : M = M' := by funext k zs; exact e k zs
  rwa [this] at h
theorem AnsY.down {C : Cn} {β : Type} {F0 H0 F1 : Hp} {A : R Er (List β) → Prop} (a : AnsY C F0 H0 A) (b : Bs F0 H0 F1) : AnsY C F1 H0 A := ⟨a.no, fun e h σ F H cls d g => a.er e h σ F H cls d (g.down b)⟩
section
variable {C : Cn} {β S S' T : Type} {r : Rp β} {G : List LK.Slot} {slk : S' → List LK.Slot} {e c tg it : Expr} {rest a b body : List Stmt} {pos yp : Pos} {m : Md}
theorem AnsY.air {F0 H0 : Hp} {A : R Er (List β) → Prop} (an : AnsY C F0 H0 A) {x : Er} (h : A (.er x)) {σ : L2.St} {F H : Hp} {G : List LK.Slot} (E : EnvOk F0 H0 G σ F H) : ∀ F' H' cls d, Gr F H F' H' → rEr C.T F' cls d x → C.W cls d σ H' :=
  fun F' H' cls d g q => an.er x h σ F' H' cls d (E.gr.trans g) q
theorem xy_nil (s : S') (h : Lw G (slk s)) : XY C r [] G slk (fun k zs => k s zs) := ⟨fun F0 H0 A D an k hk zs hA σ F H ys E hp hl => tY_le gss_nil (hk s zs hA σ F H ys (E.weak h) hp hl)⟩
theorem pmo [im : Mo r] {F F' : Hp} (g : Ex F F') {ys : List V} {zs : List β} (h : Paired (r F) ys zs) : Paired (r F') ys zs := pmap (fun _ _ z => im.ex g z) h
theorem xy_yield [im : Mo r] {f : R Er β} {M : (S' → List β → R Er (List β)) → List β → R Er (List β)} (he : XE C e G .sh r f) (hr : XY C r rest G slk M) (hco : C.X.env.scope.isCoroutine = false := by rfl) (hi : interactive C.X.env = false := by rfl) :
    XY C r (.Expr (.Yield (some e) yp) pos :: rest) G slk (fun k zs => R.iff (zs.length < 16777216) (f.bind fun x => M k (zs ++ [x]))) := ⟨fun F0 H0 A D an k hk zs hA σ F H ys E hp hl => by
  have he := he.h F0 H0
  refine tY_le (gss_cons (gs_yield pE hco hi) pY) ?_
  unfold R.iff at hA
  by_cases hlt : zs.length < 16777216
  · rw [if_pos hlt] at hA
    refine ⟨by rw [hp.length]; exact hlt, ?_⟩
    cases f with
    | no => exact (an.no hA).elim
    | er y => exact he σ F H E (an.air hA E) _
    | ok x => exact he σ F H E _ fun v F' H' g hv => hr.h F0 H0 A D an k hk (zs ++ [x]) hA σ F' H' _ (E.gro g) (papp (pmo g.ff hp) (.cons hv .nil)) (by rw [List.length_append, List.length_singleton]; omega)
  · rw [if_neg hlt] at hA; exact (an.no hA).elim⟩
/-- both ways go on: by values -/
theorem xy_if [im : Mo r] {f : R Er Bool} {slj : S → List LK.Slot} {M1 M2 : (S → List β → R Er (List β)) → List β → R Er (List β)} {M : S → (S' → List β → R Er (List β)) → List β → R Er (List β)} (v1 v2 : List β → R Er (S × List β)) (hc : XQ C c G f) (h1 : XY C r a G slj M1) (h2 : XY C r b G slj M2)
    (e1 : ∀ k zs, M1 k zs = (v1 zs).bind fun t => k t.1 t.2) (e2 : ∀ k zs, M2 k zs = (v2 zs).bind fun t => k t.1 t.2) (hr : ∀ s, XY C r rest (slj s) slk (M s)) :
    XY C r (.If c a b pos :: rest) G slk (fun k zs => (f.bind fun x => cond x (v1 zs) (v2 zs)).bind fun t => M t.1 k t.2) := ⟨fun F0 H0 A D an k hk zs hA σ F H ys E hp hl => by
  have hc := hc.h F0 H0
  refine tY_le (gss_cons (gs_if pT pY pY) pY) ?_
  cases f with
  | ok x =>
    refine hc σ F H E _ fun F' H' g => ?_
    cases x with
    | true =>
      rw [if_pos rfl]
      have hA : A ((v1 zs).bind fun t => M t.1 k t.2) := hA
      exact h1.h F0 H0 A ⟨fun ys' σ' H' => tY C.X rest D ys' σ' H', D.rt, D.bk, D.ct⟩ an (fun s zs => M s k zs) (fun s zs hs => (hr s).h F0 H0 A D an k hk zs hs) zs (by rw [e1]; exact hA) σ F' H' ys (E.gro g) (pmo g.ff hp) hl
    | false =>
      rw [if_neg (by decide)]
      have hA : A ((v2 zs).bind fun t => M t.1 k t.2) := hA
      exact h2.h F0 H0 A ⟨fun ys' σ' H' => tY C.X rest D ys' σ' H', D.rt, D.bk, D.ct⟩ an (fun s zs => M s k zs) (fun s zs hs => (hr s).h F0 H0 A D an k hk zs hs) zs (by rw [e2]; exact hA) σ F' H' ys (E.gro g) (pmo g.ff hp) hl
  | er y => exact hc σ F H E (an.air hA E) _
  | no => exact (an.no hA).elim⟩
/-- at a turn's end -/
def CpY (F1 H0 : Hp) (P : T × List β → Prop) (r : Rp β) (slT : T → List LK.Slot) : List V → L2.St → Hp → Prop := fun ys σ H => ∃ t zs F, P (t, zs) ∧ EnvOk F1 H0 (slT t) σ F H ∧ Paired (r F) ys zs ∧ zs.length ≤ 16777216
theorem xy_for [im : Mo r] {α : Type} {ra : Rp α} {fx : R Er (List α)} {up : α → List LK.Slot → List LK.Slot} {tl : List Nat} {M : T → (S' → List β → R Er (List β)) → List β → R Er (List β)} {B : T → α → (T → List β → R Er (List β)) → List β → R Er (List β)} (st : T × List β → α → R Er (T × List β)) (slT : T → List LK.Slot) (t0 : T) (h0 : Lw G (slT t0))
    (po : PassesOwn (model C.X.prog C.X.w) C.X.A C.X.env C.X.xe) (hi : XI C tg it G m ra fx) (hg : XG C tg m ra up tl) (G' : T → α → List LK.Slot) (hG : ∀ t x, up x (slT t) = G' t x) (hb : ∀ t x, XY C r body (G' t x) slT (B t x)) (hB : ∀ t x k zs, B t x k zs = (st (t, zs) x).bind fun q => k q.1 q.2) (hr : ∀ t, XY C r rest (slT t) slk (M t))
    (hc : C.X.calm = true := by rfl) (hs : ∀ x, foldedSetIterable it C.X.env x = pure x := by intro _; rfl) :
    XY C r (.For tg it body [] pos :: rest) G slk (fun k zs => fx.bind fun xs => (R.foldR st (t0, zs) xs).bind fun q => M q.1 k q.2) := ⟨fun F0 H0 A D an k hk zs hA σ F H ys E hp hl => by
  have hi := hi.h F0 H0
  refine tY_le (gss_cons (gs_for po hc pI pG pY hs) pY) ?_
  cases fx with
  | no => exact (an.no hA).elim
  | er y => exact hi σ F H E (an.air hA E) _
  | ok xs =>
    refine hi σ F H E _ fun J F1 H1 g1 w hxl => ?_
    have b1 : Bs F0 H0 F1 := (E.gr.trans g1).bs
    have E1 := ((E.gro g1).weak h0).here
    have hA : A ((R.foldR st (t0, zs) xs).bind fun q => M q.1 k q.2) := hA
    refine ⟨fun i j ys' σ' H' => j = xs.length - i ∧ i ≤ xs.length ∧ CpY F1 H0 (fun q => A ((R.foldR st q (xs.drop i)).bind fun q => M q.1 k q.2)) r slT ys' σ' H', ⟨xs.length, by simp, Nat.zero_le _, t0, zs, F1, hA, E1, pmo g1.ff hp, hl⟩, ?_⟩
    rintro i j ys' σ' H' ⟨rfl, hile, t, zs', F', hA', E2, hp', hl'⟩
    by_cases hlt : i < xs.length
    · have hx : xs[i]? = some xs[i] := List.getElem?_eq_getElem hlt
      have hd' : xs.drop i = xs[i] :: xs.drop (i + 1) := List.drop_eq_getElem_cons hlt
      rw [hd'] at hA'
      refine .inr ⟨w.go i F' H' E2.gr.ff E2.gr.fh E2.gr.hh hlt, CpY F1 H0 (fun q => A ((R.foldR st q (xs.drop (i + 1))).bind fun q => M q.1 k q.2)) r slT, fun ys'' σ'' H'' h => ⟨xs.length - (i + 1), by omega, rfl, hlt, h⟩, fun v H'' y => ?_⟩
      obtain ⟨x, F3, hx', g3, rx⟩ := w.yld i F' H' v H'' E2.gr.ff E2.gr.fh E2.gr.hh hlt y
      rw [hx] at hx'
      cases hx'
      refine (hg.h H0).eg F1 _ _ F3 H'' v _ (E2.gro g3) rx _ fun σ2 E4 _ => ?_
      rw [hG] at E4
      have hA2 : A (B t xs[i] (fun t' zs'' => (R.foldR st (t', zs'') (xs.drop (i + 1))).bind fun q => M q.1 k q.2) zs') := by
        rw [hB]
        have : (R.foldR st (t, zs') (xs[i] :: xs.drop (i + 1))).bind (fun q => M q.1 k q.2) = (st (t, zs') xs[i]).bind fun q => (R.foldR st (q.1, q.2) (xs.drop (i + 1))).bind fun q => M q.1 k q.2 := by
          show ((st (t, zs') xs[i]).bind fun q => R.foldR st q (xs.drop (i + 1))).bind _ = _
          rw [R.bind_bind]
        rw [← this]; exact hA'
      exact (hb t xs[i]).h F1 H0 A ⟨CpY F1 H0 (fun q => A ((R.foldR st q (xs.drop (i + 1))).bind fun q => M q.1 k q.2)) r slT, D.rt, fun ys' σ' H' => tY C.X rest D ys' σ' H', CpY F1 H0 (fun q => A ((R.foldR st q (xs.drop (i + 1))).bind fun q => M q.1 k q.2)) r slT⟩ (an.down b1) _ (fun t' zs'' h => fun σ F H ys E hp hl => ⟨t', zs'', F, h, E, hp, hl⟩) zs' hA2 σ2 F3 H'' ys' E4 (pmo g3.ff hp') hl'
    · have e : i = xs.length := by omega
      subst e
      rw [List.drop_length] at hA'
      exact .inl ⟨w.stop F' H' E2.gr.ff E2.gr.fh E2.gr.hh, (hr t).h F0 H0 A D an k hk zs' hA' σ' F' H' ys' (E2.down b1) hp' hl'⟩⟩
end
/-- the promise of a generator def that raises nothing -/
def spG {α β : Type} (P : Pt α) (f : List β → α → R Er (List β)) (r : Rp β) : SpG := fun vs H Q _ => ∃ F a zs, Ex F H ∧ P.ra F H H vs a ∧ f [] a = .ok zs ∧ zs.length ≤ 16777216 ∧ ∀ ys F' H', Gr F H F' H' → Paired (r F') ys zs → Q ys H'
def cnG (P : Program) (w : World) (K : PySem.W.Frag) (mg : Str → Option Value) (base : Heap) (N : List Str) (nd : N.Nodup) (qual : Str) (sc : Scope) (f : Addr) (cdv : Value) (A : Around) (outer : List Env) (s : Shared) (H : Hp) (E : XK) (pn : List (Addr × Obj)) (T : XT) : Cn where
  X := gcxOf P w K mg base N qual sc f cdv A outer s H E pn
  T := T
  W := fun _ _ _ _ => False
  tk := takes0
  nd := nd
theorem cnG_po {P : Program} {w : World} {K : PySem.W.Frag} {mg : Str → Option Value} {base : Heap} {N : List Str} {nd : N.Nodup} {qual : Str} {sc : Scope} {f : Addr} {cdv : Value} {A : Around} {outer : List Env} {s : Shared} {H : Hp} {E : XK} {pn : List (Addr × Obj)} {T : XT} : PassesOwn (model (cnG P w K mg base N nd qual sc f cdv A outer s H E pn T).X.prog (cnG P w K mg base N nd qual sc f cdv A outer s H E pn T).X.w) (cnG P w K mg base N nd qual sc f cdv A outer s H E pn T).X.A (cnG P w K mg base N nd qual sc f cdv A outer s H E pn T).X.env (cnG P w K mg base N nd qual sc f cdv A outer s H E pn T).X.xe := owns_gcx
theorem ok_G {α β S' : Type} {P : Program} {w : World} {K : PySem.W.Frag} {mg : Str → Option Value} {base : Heap} {X : XT} {T : Pt α} {f : List β → α → R Er (List β)} {r : Rp β} {x qual : Str} {st : Stmt} {fa : Addr} {fd : FuncData} {N ps : List Str} {k : Nat} (c : Nat) (Fn : Fun K x qual st fa fd) (S : GScope N ps (defScope st)) (hc : N.length = T.count + c) (hps : ps.length = T.count)
    (hbody : ∀ (cdv : Value) (A : Around) (outer : List Env) (s : Shared) (H : Hp) (E : XK) (pn : List (Addr × Obj)) (hr : Room k (A.deeper (envOfC qual (defScope st) s.heap.objs.size fa cdv))) (a : α),
      ∃ (slk : S' → List LK.Slot) (M : (S' → List β → R Er (List β)) → List β → R Er (List β)), XY (cnG P w K mg base N S.nd qual (defScope st) fa cdv A outer s H E pn X) r (defBody st) (T.slots a ++ List.replicate c .no) slk M ∧ ∀ zs, M (fun _ zs => .ok zs) zs = f zs a) :
    GFn P w K mg base (k + 1) fa fd ps (spG T f r) := by
  obtain ⟨oc, od, kV, doc, pm, an, cdv, ct, osl, rfl, look, code⟩ := Fn.ex
  refine gfn_of look code S (fun vs H Q E h => ?_) (fun A outer s H vs Q E pn hr h => ?_)
  · obtain ⟨_, _, _, _, h, _⟩ := h
    rw [hps]; exact Pt.length T h
  · obtain ⟨F, a, zs, e, ha, hf, hlen, q⟩ := h
    obtain ⟨slk, M, hB, hM⟩ := hbody cdv A outer s H E pn hr a
    refine ⟨_, pY, hB.h F H (fun x => x = .ok zs) ⟨fun ys _ H' => Q ys H', fun ys v H' => v = .non ∧ Q ys H', fun _ _ _ => False, fun _ _ _ => False⟩ ⟨(fun z => nomatch z), (fun e z => nomatch z)⟩ (fun _ zs => .ok zs) (fun s' zs' hz σ F' H' ys E2 hp hl => ?_) [] (by rw [hM, hf]) _ F H [] (entry e ha c hc) .nil (Nat.zero_le _)⟩
    cases hz
    exact q ys F' H' E2.gr hp
section
variable {C : Cn} {G : List LK.Slot} {m : Md} {o : Expr} {nm y : Str} {pos pos' apos p : Pos}
/-- list(o.m()), m a generator method -/
theorem xlistG {α β : Type} {C0 : Addr} {rb : Rp α} [ib : Mo rb] {r : Rp β} [im : Mo r] {fn : List β → α × Unit → R Er (List β)} {f : R Er α} {k n : Nat} {fa : Addr} {fd : FuncData} {ps : List Str} (ha : XE C o G m rb f) (hins : ∀ F v x, rb F v x → ∃ q dx fs, v = .ref q ∧ F q = some (.ins C0 dx fs) ∧ fs.lookup nm = none) (cl : Cls C.X.K C0) (hm : Meth C.X.K C0 nm fa) (hb : Binds C.X.K fd ps [])
    (Fo : GFn C.X.prog C.X.w C.X.K C.X.mg C.X.base k fa fd ps (spG (.cons m rb ib .nil) fn r)) (hr : Room n C.X.A) (hg : Gl C.X y) (hmg : C.X.mg y = none) (hv : bootBuiltins y = some (.type "list")) (hk : k + 3 ≤ n := by decide) (hnm : y ≠ "__name__" := by decide) (hdb : (y == ("__debug__" : Str)) = false := by decide) {pl : Sem Bool}
    (ht : eval (.Call (.Attribute o nm apos) [] [] pos') C.X.env = (do
      let ov ← eval o C.X.env
      standAt apos.atName
      let (f, first) ← holding [ov] (getMethod ov nm pl)
      callWith pos' f first (backTo pos' (starEach [] C.X.env)) (backToKw pos' (keywordEach [] C.X.env))) := by rfl)
    (he : starEach [.Call (.Attribute o nm apos) [] [] pos'] C.X.env = (false, eval (.Call (.Attribute o nm apos) [] [] pos') C.X.env) :: starEach [] C.X.env := by exact star_cons rfl) :
    XN C (.Call (.Name y p) [.Call (.Attribute o nm apos) [] [] pos'] [] pos) G (fun zs => sL r zs) (f.bind fun x => ((fn [] (x, ())).noer : R Er (List β)).bind lenR) := ⟨fun F0 H0 => by
  have ha := ha.h F0 H0
  refine Ds.le (t := tListG (tMethG C0 nm (spG (.cons m rb ib .nil) fn r) [] E0 (tE C.X o) tNil)) ?_ fun _ _ _ q => tE_le (pe_listG (pgen_meth0 pE cl hm Fo (hr.mono (by omega)) hb .nil ht) passL (fun _ _ _ z => z.elim) (hr.mono hk) hg hmg hv hnm hdb he) q
  cases f with
  | no => trivial
  | er z => exact fun σ F H E w Q => ha σ F H E w _
  | ok x =>
    show Ds C F0 H0 _ G (fun zs => sL r zs) (((fn [] (x, ())).noer : R Er (List β)).bind lenR)
    cases hf : fn [] (x, ()) with
    | no => trivial
    | er _ => trivial
    | ok zs =>
      show Ds C F0 H0 _ G (fun zs => sL r zs) (R.iff (zs.length ≤ 16777216) (.ok zs))
      unfold R.iff
      by_cases hlen : zs.length ≤ 16777216
      · rw [if_pos hlen]
        refine dv_en fun σ F H E Q q => ha σ F H E _ fun v F1 H1 g1 hv => ?_
        obtain ⟨b, dx, fs, e1, e2, e3⟩ := hins _ _ _ hv
        refine ⟨b, dx, fs, e1, pk_now (E.gr.trans g1) _ _ e2, e3, ?_⟩
        show spG (.cons m rb ib .nil) fn r (v :: ([] ++ [])) H1 _ E0
        refine ⟨F1, (x, ()), zs, g1.fh, Pt.now (.cons m rb ib .nil) (E.gr.trans g1) ⟨_, _, rfl, hv, rfl⟩, hf, hlen, fun ys F2 H2 g2 hp p2 hp2 => ?_⟩
        have g3 := (g1.trans g2)
        have hF : F2 p2 = none := g3.fh.back hp2
        exact q p2 ys F2 _ (g3.trans (Gr.wild g3.fh hp2)) (g3.hh.back hp2) hF upd_same hlen hp
      · rw [if_neg hlen]; trivial⟩
end
end LG
set_option Elab.async false
set_option linter.all false
set_option maxRecDepth 100000
set_option maxHeartbeats 4000000
set_option autoImplicit false
namespace R
variable {ε δ α β γ S : Type}
theorem foldR_unit {f : Unit → α → R ε Unit} : ∀ {xs : List α}, (∀ x ∈ xs, f () x = .ok ()) → R.foldR f () xs = .ok ()
  | [], _ => rfl
  | x :: xs, h => by
    show (f () x).bind _ = _
    rw [h x List.mem_cons_self]
    exact foldR_unit fun y hy => h y (List.mem_cons_of_mem _ hy)
/-- a walk that changes nothing and goes on each time -/
theorem runC_unit {B : Unit → α → (Unit → R ε β) → R ε β} {k : Unit → R ε β} : ∀ {xs : List α}, (∀ x ∈ xs, ∀ k, B () x k = k ()) → LK.runC B () xs k = k ()
  | [], _ => rfl
  | x :: xs, h => by
    show B () x _ = _
    rw [h x List.mem_cons_self]
    exact runC_unit fun y hy => h y (List.mem_cons_of_mem _ hy)
theorem mapR_flt {p : α → R ε Bool} {f : α → R ε α} (p' : α → Bool) (xs : List α) (hp : ∀ x ∈ xs, p x = .ok (p' x)) (hf : ∀ x ∈ xs, p' x = true → f x = .ok x) : (R.mapR p f xs : R δ (List α)) = .ok (xs.filter p') := by
  rw [mapR_ok p' id xs hp hf, List.map_id]
end R
namespace PL
open PySem L2 LK LKX LKB LJ PyProof.Rows PySem.Spec
section
variable {α : Type} [Inhabited α]
theorem ixD_get {x : List α} {i : Nat} (h : i < x.length) : ixD x (i : Int) = x[i] := by
  rw [ixD_nat, List.getD_eq_getElem?_getD, List.getElem?_eq_getElem h]; rfl
theorem ixR_nat {x : List α} {i : Nat} (h : i < x.length) : ixR x (i : Int) = .ok x[i] := by rw [ixR_ok ⟨by omega, by omega⟩, ixD_get h]
end
theorem ixTR_nat {x : List Nat} {i : Nat} (h : i < x.length) : ixTR x (i : Int) = .ok [x[i]] := by rw [ixTR_ok ⟨by omega, by omega⟩, ixD_get h]
theorem rng_nat (n : Nat) : rng (n : Int) = (List.range n).map fun (k : Nat) => (k : Int) := by
  unfold rng rng2
  rw [Int.sub_zero, Int.toNat_natCast]
  exact List.map_congr_left fun k _ => by omega
theorem rngR_nat {n : Nat} (h : n ≤ 16777216) : rngR (n : Int) = .ok ((List.range n).map fun (k : Nat) => (k : Int)) := by rw [rngR_ok ⟨by omega, by omega⟩, rng_nat]
theorem mem_rng {n : Nat} {x : Int} : x ∈ (List.range n).map (fun (k : Nat) => (k : Int)) ↔ ∃ k : Nat, k < n ∧ x = (k : Int) := by
  constructor
  · intro h
    obtain ⟨k, h1, h2⟩ := List.mem_map.mp h
    exact ⟨k, List.mem_range.mp h1, h2.symm⟩
  · rintro ⟨k, h, rfl⟩
    exact List.mem_map.mpr ⟨k, List.mem_range.mpr h, rfl⟩
theorem rng_at {n i : Nat} {x : Int} (h : ((List.range n).map fun (k : Nat) => (k : Int))[i]? = some x) : i < n ∧ x = (i : Int) := by
  rw [List.getElem?_map] at h
  cases hr : (List.range n)[i]? with
  | none => rw [hr] at h; cases h
  | some k =>
    rw [hr] at h
    have hl := (List.getElem?_eq_some_iff.mp hr)
    obtain ⟨hl1, hl2⟩ := hl
    simp at hl1 hl2
    subst hl2
    exact ⟨hl1, (Option.some.inj h).symm⟩
theorem erase_perm {α : Type} : ∀ (l : List α) (i : Nat) (h : i < l.length), (l[i] :: l.eraseIdx i).Perm l
  | x :: l, 0, _ => List.Perm.refl _
  | x :: l, i + 1, h => (List.Perm.swap x _ _).trans (List.Perm.cons x (erase_perm l i (by simpa using h)))
def IsSt (s : List Nat) : Prop := ∀ c ∈ s, c = 46 ∨ c = 104 ∨ c = 114
instance (s : List Nat) : Decidable (IsSt s) := inferInstanceAs (Decidable (∀ c ∈ s, c = 46 ∨ c = 104 ∨ c = 114))
def sts : Nat → List (List Nat)
  | 0 => [[]]
  | n + 1 => (sts n).flatMap fun s => [s ++ [46], s ++ [104], s ++ [114]]
theorem mem_sts : ∀ {n : Nat} {s : List Nat}, s ∈ sts n ↔ s.length = n ∧ IsSt s
  | 0, s => by
    unfold sts
    rw [List.mem_singleton]
    constructor
    · rintro rfl; exact ⟨rfl, fun _ z => nomatch z⟩
    · rintro ⟨h, _⟩; exact List.length_eq_zero_iff.mp h
  | n + 1, s => by
    unfold sts
    rw [List.mem_flatMap]
    constructor
    · rintro ⟨t, ht, hs⟩
      obtain ⟨h1, h2⟩ := mem_sts.mp ht
      have : ∃ c, (c = 46 ∨ c = 104 ∨ c = 114) ∧ s = t ++ [c] := by
        simp only [List.mem_cons, List.not_mem_nil, or_false] at hs
        rcases hs with h | h | h
        · exact ⟨_, .inl rfl, h⟩
        · exact ⟨_, .inr (.inl rfl), h⟩
        · exact ⟨_, .inr (.inr rfl), h⟩
      obtain ⟨c, hc, rfl⟩ := this
      refine ⟨by simp [h1], fun d hd => ?_⟩
      rcases List.mem_append.mp hd with hd | hd
      · exact h2 d hd
      · rw [List.mem_singleton.mp hd]; exact hc
    · rintro ⟨h1, h2⟩
      have hne : s ≠ [] := fun e => by subst e; cases h1
      have es := List.dropLast_concat_getLast hne
      refine ⟨s.dropLast, mem_sts.mpr ⟨by simp [h1], fun c hc => h2 c (List.dropLast_subset s hc)⟩, ?_⟩
      have hl := h2 _ (List.getLast_mem hne)
      simp only [List.mem_cons, List.not_mem_nil, or_false]
      rcases hl with h | h | h
      · exact .inl (by rw [h] at es; exact es.symm)
      · exact .inr (.inl (by rw [h] at es; exact es.symm))
      · exact .inr (.inr (by rw [h] at es; exact es.symm))
theorem lt_app {x y : Nat} : ∀ {a b : List Nat}, a.length = b.length → a < b → a ++ [x] < b ++ [y]
  | [], [], _, h => absurd h (List.lt_irrefl _)
  | c :: a, d :: b, hl, h => by
    rw [List.cons_append, List.cons_append]
    rw [List.cons_lt_cons_iff] at h ⊢
    rcases h with h | ⟨h1, h2⟩
    · exact .inl h
    · exact .inr ⟨h1, lt_app (by simpa using hl) h2⟩
theorem lt_last {x y : Nat} (h : x < y) : ∀ (a : List Nat), a ++ [x] < a ++ [y]
  | [] => by
    rw [List.nil_append, List.nil_append, List.cons_lt_cons_iff]; exact .inl h
  | c :: a => by
    rw [List.cons_append, List.cons_append, List.cons_lt_cons_iff]; exact .inr ⟨rfl, lt_last h a⟩
theorem sts_sorted : ∀ n, (sts n).Pairwise (· < ·)
  | 0 => List.pairwise_singleton _ _
  | n + 1 => by
    unfold sts
    have ih := sts_sorted n
    have hm : ∀ s ∈ sts n, s.length = n := fun s h => (mem_sts.mp h).1
    generalize sts n = l at ih hm
    induction l with
    | nil => exact .nil
    | cons s l il =>
      rw [List.flatMap_cons]
      obtain ⟨h1, h2⟩ := List.pairwise_cons.mp ih
      refine List.pairwise_append.mpr ⟨?_, il h2 fun t ht => hm t (List.mem_cons_of_mem _ ht), fun a ha b hb => ?_⟩
      · simp only [List.pairwise_cons, List.mem_cons, List.not_mem_nil, or_false, forall_eq_or_imp, forall_eq, List.Pairwise.nil, and_true]
        exact ⟨⟨lt_last (by decide) s, lt_last (by decide) s⟩, lt_last (by decide) s, fun _ z => z.elim⟩
      · obtain ⟨t, ht, hb⟩ := List.mem_flatMap.mp hb
        have hst := h1 t ht
        have hl : s.length = t.length := by rw [hm s List.mem_cons_self, hm t (List.mem_cons_of_mem _ ht)]
        simp only [List.mem_cons, List.not_mem_nil, or_false] at ha hb
        rcases ha with rfl | rfl | rfl <;> rcases hb with rfl | rfl | rfl <;> exact lt_app hl hst
theorem sts_nodup (n : Nat) : (sts n).Nodup := (sts_sorted n).imp fun h e => by subst e; exact List.lt_irrefl _ h
theorem sts_len : ∀ n, (sts n).length = 3 ^ n
  | 0 => rfl
  | n + 1 => by
    unfold sts
    rw [List.length_flatMap]
    have : (sts n).map (fun s => [s ++ [46], s ++ [104], s ++ [114]].length) = (sts n).map fun _ => 3 := rfl
    have sr : ∀ m : Nat, (List.replicate m 3).sum = m * 3 := fun m => by
      induction m with
      | zero => rfl
      | succ m ih => rw [List.replicate_succ, List.sum_cons, ih]; omega
    rw [this, List.map_const', sr, sts_len n, Nat.pow_succ]
theorem sts_small {n : Nat} (h : n ≤ 6) : (sts n).length ≤ 729 := by
  rw [sts_len]
  exact Nat.pow_le_pow_right (n := 3) (by decide) h
section
variable {κ β : Type} [DecidableEq κ]
theorem find_put (k k' : κ) (v : β) : ∀ (d : List (κ × β)), (putA d k v).find? (fun kv => decide (kv.1 = k')) = if k = k' then some (k, v) else d.find? fun kv => decide (kv.1 = k') := by
  intro d
  unfold putA
  split
  · rename_i h
    induction d with
    | nil => cases h
    | cons a d ih =>
      rw [List.map_cons]
      by_cases ha : a.1 = k
      · rw [if_pos ha]
        by_cases hk : k = k'
        · rw [if_pos hk]
          simp [List.find?, ha, hk]
        · rw [if_neg hk]
          have hk2 : ¬ a.1 = k' := fun e => hk (ha.symm.trans e)
          simp only [List.find?, hk2, ha, hk, decide_false]
          by_cases hd : d.any (fun kv => decide (kv.1 = k)) = true
          · rw [ih hd, if_neg hk]
          · have hnone : ∀ x ∈ d, ¬ x.1 = k := fun x hx e => hd (List.any_eq_true.mpr ⟨x, hx, decide_eq_true e⟩)
            have : d.map (fun kv => if kv.1 = k then (kv.1, v) else kv) = d := by
              conv => rhs; rw [← List.map_id d]
              exact List.map_congr_left fun x hx => by rw [if_neg (hnone x hx)]; rfl
            rw [this]
      · rw [if_neg ha]
        have hd : d.any (fun kv => decide (kv.1 = k)) = true := by simpa [ha] using h
        by_cases hk' : a.1 = k'
        · have : ¬ k = k' := fun e => ha (hk'.trans e.symm)
          simp [List.find?, hk', this]
        · simp only [List.find?, hk', decide_false]
          rw [ih hd]
  · rename_i h
    have hnone : ∀ x ∈ d, ¬ x.1 = k := fun x hx e => h (List.any_eq_true.mpr ⟨x, hx, decide_eq_true e⟩)
    rw [List.find?_append]
    by_cases hk : k = k'
    · rw [if_pos hk]
      subst hk
      have : d.find? (fun kv => decide (kv.1 = k)) = none := List.find?_eq_none.mpr fun x hx => by simp [hnone x hx]
      rw [this]; simp
    · rw [if_neg hk]
      cases hf : d.find? (fun kv => decide (kv.1 = k')) with
      | some x => rfl
      | none => simp [hk]
theorem getA_put (d : List (κ × β)) (k k' : κ) (v : β) : getA (putA d k v) k' = if k = k' then some v else getA d k' := by
  unfold getA
  rw [find_put]
  by_cases h : k = k'
  · rw [if_pos h, if_pos h]; rfl
  · rw [if_neg h, if_neg h]
theorem getA_foldl (k' : κ) : ∀ (l : List (κ × β)) (d : List (κ × β)), (getA (l.foldl (fun d kv => putA d kv.1 kv.2) d) k').isSome = ((getA d k').isSome || memD k' (l.map (·.1)))
  | [], d => by rw [List.foldl_nil, List.map_nil]; simp
  | x :: l, d => by
    rw [List.foldl_cons, getA_foldl k' l, getA_put]
    by_cases h : x.1 = k'
    · rw [if_pos h]; simp [h]
    · rw [if_neg h]
      have : ¬ k' = x.1 := fun e => h e.symm
      congr 1
      rw [Bool.eq_iff_iff, decide_eq_true_iff, decide_eq_true_iff, List.map_cons, List.mem_cons]
      exact ⟨.inr, fun z => z.resolve_left this⟩
theorem getA_of (l : List (κ × β)) (k : κ) : (getA (ofA l) k).isSome = memD k (l.map (·.1)) := by
  unfold ofA
  rw [getA_foldl]; simp [getA]
end
theorem memD_iff {α : Type} [DecidableEq α] {x : α} {y : List α} : memD x y = true ↔ x ∈ y := decide_eq_true_iff
theorem memD_congr {α : Type} [DecidableEq α] {x : α} {y z : List α} (h : x ∈ y ↔ x ∈ z) : memD x y = memD x z := by
  rw [Bool.eq_iff_iff, memD_iff, memD_iff]; exact h
def at_ {α : Type} (r : List (List α)) (i : Nat) : List α := r.getD i []
theorem at_app_lt {α : Type} {r : List (List α)} {x : List α} {i : Nat} (h : i < r.length) : at_ (r ++ [x]) i = at_ r i := by
  unfold at_
  rw [List.getD_eq_getElem?_getD, List.getD_eq_getElem?_getD, List.getElem?_append_left h]
theorem at_app_eq {α : Type} {r : List (List α)} {x : List α} : at_ (r ++ [x]) r.length = x := by
  unfold at_
  rw [List.getD_eq_getElem?_getD, List.getElem?_append_right (Nat.le_refl _), Nat.sub_self]; rfl
structure RulesOk (n : Nat) (r : List (List (List Nat))) : Prop where
  len : r.length = n
  flt : ∀ i, i < n → (sts n).filter (fun s => memD s (at_ r i)) = at_ r i
  free : ∀ i, i < n → ∀ s ∈ at_ r i, s[i]? = some 46
theorem RulesOk.sub {n : Nat} {r : List (List (List Nat))} (h : RulesOk n r) {i : Nat} (hi : i < n) {s : List Nat} (hs : s ∈ at_ r i) : s ∈ sts n := by
  rw [← h.flt i hi] at hs
  exact (List.mem_filter.mp hs).1
theorem flt_eq {n : Nat} {p : List Nat → Bool} : (sts n).filter (fun s => memD s ((sts n).filter p)) = (sts n).filter p := by
  refine List.filter_congr fun s hs => ?_
  rw [Bool.eq_iff_iff, memD_iff, List.mem_filter]
  exact ⟨fun h => h.2, fun h => ⟨hs, h⟩⟩
theorem at_set {α : Type} {r : List (List α)} {i j : Nat} {x : List α} (h : i < r.length) : at_ (r.set i x) j = if i = j then x else at_ r j := by
  unfold at_
  rw [List.getD_eq_getElem?_getD, List.getD_eq_getElem?_getD]
  by_cases e : i = j
  · subst e; rw [if_pos rfl, List.getElem?_set_self h]; rfl
  · rw [if_neg e, List.getElem?_set_ne e]
theorem RulesOk.set {n : Nat} {r : List (List (List Nat))} (h : RulesOk n r) {i : Nat} (hi : i < n) {x : List (List Nat)} (h1 : (sts n).filter (fun s => memD s x) = x) (h2 : ∀ s ∈ x, s[i]? = some 46) : RulesOk n (r.set i x) := by
  have hl := h.len
  refine ⟨by rw [List.length_set]; exact hl, fun j hj => ?_, fun j hj s hs => ?_⟩
  · rw [at_set (by omega)]
    by_cases e : i = j
    · rw [if_pos e]; exact h1
    · rw [if_neg e]; exact h.flt j hj
  · rw [at_set (by omega)] at hs
    by_cases e : i = j
    · rw [if_pos e] at hs; subst e; exact h2 s hs
    · rw [if_neg e] at hs; exact h.free j hj s hs
theorem at_get {α : Type} {r : List (List α)} {i : Nat} (h : i < r.length) : r[i] = at_ r i := by
  unfold at_
  rw [List.getD_eq_getElem?_getD, List.getElem?_eq_getElem h]; rfl
theorem ixR_at {α : Type} {r : List (List α)} {i : Nat} (h : i < r.length) : ixR r (i : Int) = .ok (at_ r i) := by rw [ixR_nat h, at_get h]
/-- a book's dicts hold these rules -/
structure BookIs (d : List (List (List Nat × Bool))) (r : List (List (List Nat))) : Prop where
  len : d.length = r.length
  keys : ∀ i, i < r.length → ∀ s, (getA (at_ d i) s).isSome = memD s (at_ r i)
  nd : ∀ i, ((at_ d i).map (·.1)).Nodup
theorem put_keys {κ β : Type} [DecidableEq κ] (d : List (κ × β)) (k : κ) (v : β) : (putA d k v).map (·.1) = if k ∈ d.map (·.1) then d.map (·.1) else d.map (·.1) ++ [k] := by
  unfold putA
  by_cases h : (d.any fun kv => decide (kv.1 = k)) = true
  · have hm : k ∈ d.map (·.1) := by
      obtain ⟨x, hx, e⟩ := List.any_eq_true.mp h
      exact List.mem_map.mpr ⟨x, hx, of_decide_eq_true e⟩
    rw [if_pos h, if_pos hm, List.map_map]
    refine List.map_congr_left fun x _ => ?_
    show (if x.1 = k then (x.1, v) else x).1 = x.1
    split <;> rfl
  · have hm : k ∉ d.map (·.1) := fun z => by
      obtain ⟨x, hx, e⟩ := List.mem_map.mp z
      exact h (List.any_eq_true.mpr ⟨x, hx, decide_eq_true e⟩)
    rw [if_neg h, if_neg hm, List.map_append]; rfl
theorem put_nd {κ β : Type} [DecidableEq κ] {d : List (κ × β)} (h : (d.map (·.1)).Nodup) (k : κ) (v : β) : ((putA d k v).map (·.1)).Nodup := by
  rw [put_keys]
  split
  · exact h
  · rename_i hm
    refine List.nodup_append.mpr ⟨h, List.nodup_cons.mpr ⟨by simp, List.nodup_nil⟩, fun a ha b hb => ?_⟩
    rw [List.mem_singleton.mp hb]
    exact fun e => hm (e ▸ ha)
theorem foldl_nd {κ β : Type} [DecidableEq κ] : ∀ (l d : List (κ × β)), (d.map (·.1)).Nodup → ((l.foldl (fun d kv => putA d kv.1 kv.2) d).map (·.1)).Nodup
  | [], d, h => h
  | x :: l, d, h => by rw [List.foldl_cons]; exact foldl_nd l _ (put_nd h x.1 x.2)
theorem ofA_nd {κ β : Type} [DecidableEq κ] (l : List (κ × β)) : ((ofA l).map (·.1)).Nodup := foldl_nd l [] List.nodup_nil
theorem BookIs.set {d : List (List (List Nat × Bool))} {r : List (List (List Nat))} (h : BookIs d r) {i : Nat} (hi : i < r.length) {l x : List (List Nat)} (hx : ∀ s, s ∈ x ↔ s ∈ l) : BookIs (d.set i (ofA (l.map fun s => (s, true)))) (r.set i x) := by
  refine ⟨by rw [List.length_set, List.length_set]; exact h.len, fun j hj s => ?_, fun j => ?nd⟩
  case nd =>
    rw [at_set (by rw [h.len]; exact hi)]
    split
    · exact ofA_nd _
    · exact h.nd j
  rw [List.length_set] at hj
  rw [at_set (by rw [h.len]; exact hi), at_set hi]
  by_cases e : i = j
  · rw [if_pos e, if_pos e, getA_of, List.map_map]
    have : l.map ((fun x : List Nat × Bool => x.1) ∘ fun s => (s, true)) = l := by
      conv => rhs; rw [← List.map_id l]
      rfl
    rw [this]
    rw [Bool.eq_iff_iff, memD_iff, memD_iff]; exact (hx s).symm
  · rw [if_neg e, if_neg e]; exact h.keys j hj s
/-- sorted texts without repeats, all of them states -/
theorem sort_flt {n : Nat} {l : List (List Nat)} (nd : l.Nodup) (hs : ∀ s ∈ l, s ∈ sts n) : sortT l = (sts n).filter fun s => memD s l := by
  have p1 : (sortT l).Perm l := List.mergeSort_perm l leT
  have p2 : ((sts n).filter fun s => memD s l).Perm l := by
    refine (List.perm_ext_iff_of_nodup ((sts_nodup n).filter _) nd).mpr fun s => ?_
    rw [List.mem_filter, memD_iff]
    exact ⟨fun h => h.2, fun h => ⟨hs s h, h⟩⟩
  refine List.Perm.eq_of_pairwise (le := fun a b => leT a b = true) (fun a b _ _ => leT_anti a b) (List.pairwise_mergeSort leT_trans leT_total l) ?_ (p1.trans p2.symm)
  refine List.Pairwise.filter _ ((sts_sorted n).imp fun {a b} h => ?_)
  unfold leT
  rw [decide_eq_false (fun h2 => List.lt_irrefl _ (List.lt_trans h h2))]; rfl
theorem flat1 : ∀ s : List Nat, (s.map fun c => [c]).flatten = s
  | [] => rfl
  | c :: s => by rw [List.map_cons, List.flatten_cons, flat1 s]; rfl
/-- a walk that draws numbers and may add something -/
theorem draw_fold {ε α β : Type} {f : List Int × List β → α → R ε (List Int × List β)} (g : α → List β) (k : α → Nat) : ∀ (xs : List α), (∀ x ∈ xs, (g x).length ≤ k x ∧ ∀ nums row, k x ≤ nums.length → row.length + nums.length < 1000000 → ∃ nums' z, f (nums, row) x = .ok (nums', row ++ z) ∧ z.Sublist (g x) ∧ nums'.length + k x = nums.length) →
    ∀ nums row, (xs.map k).sum ≤ nums.length → row.length + nums.length < 1000000 → ∃ nums' z, R.foldR f (nums, row) xs = .ok (nums', row ++ z) ∧ z.Sublist (xs.flatMap g) ∧ nums'.length + (xs.map k).sum = nums.length
  | [], _, nums, row, _, _ => ⟨nums, [], by simp [R.foldR], by simp, by simp⟩
  | x :: xs, h, nums, row, hn, hb => by
    rw [List.map_cons, List.sum_cons] at hn
    obtain ⟨hg, hx⟩ := h x List.mem_cons_self
    obtain ⟨n1, z1, e1, s1, l1⟩ := hx nums row (by omega) hb
    have := s1.length_le
    obtain ⟨n2, z2, e2, s2, l2⟩ := draw_fold g k xs (fun y hy => h y (List.mem_cons_of_mem _ hy)) n1 (row ++ z1) (by omega) (by rw [List.length_append]; omega)
    refine ⟨n2, z1 ++ z2, ?_, ?_, ?_⟩
    · show (f (nums, row) x).bind _ = _
      rw [e1]
      show R.foldR f _ xs = _
      rw [e2, List.append_assoc]
    · rw [List.flatMap_cons]; exact s1.append s2
    · rw [List.map_cons, List.sum_cons]; omega
def sgl (n one two : Nat) : List Nat := ((List.replicate n 46).set two 114).set one 104
def g3 (n item one two : Nat) : List (List Nat) := if one ≠ item ∧ two ≠ item then [sgl n one two] else []
def g2 (n item one : Nat) : List (List Nat) := (List.range n).flatMap (g3 n item one)
def g1 (n item : Nat) : List (List Nat) := List.replicate n 46 :: (List.range n).flatMap (g2 n item)
def g1ok (n item : Nat) : Bool := decide ((g1 n item).Nodup) && (g1 n item).all fun s => decide (s.length = n) && decide (IsSt s) && decide (s[item]? = some 46)
theorem g1_all : ([5, 6] : List Nat).all (fun n => (List.range n).all (g1ok n)) = true := by decide +kernel
theorem g1_of {n item : Nat} (h : n = 5 ∨ n = 6) (hi : item < n) : (g1 n item).Nodup ∧ ∀ s ∈ g1 n item, s ∈ sts n ∧ s[item]? = some 46 := by
  have := List.all_eq_true.mp (List.all_eq_true.mp g1_all n (by rcases h with rfl | rfl <;> simp)) item (List.mem_range.mpr hi)
  unfold g1ok at this
  obtain ⟨h1, h2⟩ := Bool.and_eq_true_iff.mp this
  refine ⟨of_decide_eq_true h1, fun s hs => ?_⟩
  have h3 := List.all_eq_true.mp h2 s hs
  obtain ⟨h4, h5⟩ := Bool.and_eq_true_iff.mp h3
  obtain ⟨h6, h7⟩ := Bool.and_eq_true_iff.mp h4
  exact ⟨mem_sts.mpr ⟨of_decide_eq_true h6, of_decide_eq_true h7⟩, of_decide_eq_true h5⟩
def goodE (n i : Nat) (s : List Nat) : Bool := decide (s ∈ sts n) && decide (s[i]? = some 46)
end PL
set_option Elab.async false
set_option linter.all false
set_option maxRecDepth 100000
set_option maxHeartbeats 4000000
set_option autoImplicit false
namespace PL
open PySem L2 LK LKX LKB LJ PyProof.Rows PySem.Spec
def lk (i : Nat) : List Nat := [43, 48 + i]
def rl (i : Nat) : List Nat := [45, 48 + i]
/-- the items whose sign is c -/
def its (s : List Nat) (c : Nat) : List Nat := (List.range s.length).filter fun i => decide (s[i]? = some c)
def locks (r : List (List (List Nat))) (s : List Nat) : List Nat := (List.range s.length).filter fun i => decide (s[i]? = some 46) && memD s (at_ r i)
/-- the steps that the rules allow -/
def moves (r : List (List (List Nat))) (s : List Nat) : List (List Nat) := (locks r s).map lk ++ (its s 104).map rl
def mv (s t : List Nat) : List Nat := match t with
  | [43, d] => s.set (d - 48) 104
  | [_, d] => s.set (d - 48) 114
  | _ => s
theorem mv_lk (s : List Nat) (i : Nat) : mv s (lk i) = s.set i 104 := by
  show s.set (48 + i - 48) 104 = _
  rw [Nat.add_sub_cancel_left]
theorem mv_rl (s : List Nat) (i : Nat) : mv s (rl i) = s.set i 114 := by
  show s.set (48 + i - 48) 114 = _
  rw [Nat.add_sub_cancel_left]
theorem mem_its {s : List Nat} {c i : Nat} : i ∈ its s c ↔ s[i]? = some c := by
  unfold its
  rw [List.mem_filter, List.mem_range, decide_eq_true_iff]
  exact ⟨fun h => h.2, fun h => ⟨(List.getElem?_eq_some_iff.mp h).1, h⟩⟩
theorem mem_locks {r : List (List (List Nat))} {s : List Nat} {i : Nat} : i ∈ locks r s ↔ s[i]? = some 46 ∧ s ∈ at_ r i := by
  unfold locks
  rw [List.mem_filter, List.mem_range, Bool.and_eq_true, decide_eq_true_iff, memD_iff]
  exact ⟨fun h => h.2, fun h => ⟨(List.getElem?_eq_some_iff.mp h.1).1, h⟩⟩
theorem mem_moves {r : List (List (List Nat))} {s t : List Nat} : t ∈ moves r s ↔ (∃ i, t = lk i ∧ s[i]? = some 46 ∧ s ∈ at_ r i) ∨ (∃ i, t = rl i ∧ s[i]? = some 104) := by
  unfold moves
  rw [List.mem_append, List.mem_map, List.mem_map]
  constructor
  · rintro (⟨i, h, rfl⟩ | ⟨i, h, rfl⟩)
    · exact .inl ⟨i, rfl, mem_locks.mp h⟩
    · exact .inr ⟨i, rfl, mem_its.mp h⟩
  · rintro (⟨i, rfl, h⟩ | ⟨i, rfl, h⟩)
    · exact .inl ⟨i, mem_locks.mpr h, rfl⟩
    · exact .inr ⟨i, mem_its.mpr h, rfl⟩
/-- how many steps lead to a state -/
def mu : List Nat → Nat
  | [] => 0
  | c :: s => (if c = 46 then 0 else if c = 104 then 1 else 2) + mu s
theorem mu_set : ∀ {s : List Nat} {i c d : Nat}, s[i]? = some c → (c = 46 ∧ d = 104) ∨ (c = 104 ∧ d = 114) → mu (s.set i d) = mu s + 1
  | [], i, c, d, h, _ => by simp at h
  | x :: s, 0, c, d, h, hd => by
    simp at h
    subst h
    rw [List.set_cons_zero]
    unfold mu
    rcases hd with ⟨rfl, rfl⟩ | ⟨rfl, rfl⟩
    · show 1 + mu s = 0 + mu s + 1; omega
    · show 2 + mu s = 1 + mu s + 1; omega
  | x :: s, i + 1, c, d, h, hd => by
    rw [List.set_cons_succ]
    unfold mu
    rw [mu_set (by simpa using h) hd]; omega
theorem mu_mv {r : List (List (List Nat))} {s t : List Nat} (ht : t ∈ moves r s) : mu (mv s t) = mu s + 1 := by
  rcases mem_moves.mp ht with ⟨i, rfl, h, _⟩ | ⟨i, rfl, h⟩
  · rw [mv_lk]; exact mu_set h (.inl ⟨rfl, rfl⟩)
  · rw [mv_rl]; exact mu_set h (.inr ⟨rfl, rfl⟩)
theorem mu_start : ∀ n, mu (List.replicate n 46) = 0
  | 0 => rfl
  | n + 1 => by
    rw [List.replicate_succ]
    unfold mu
    rw [mu_start n]; rfl
/-- what is found: the start, and where a step leads from what is found -/
structure Reach (n : Nat) (r : List (List (List Nat))) (K : List Nat → Bool) : Prop where
  sub : ∀ s, K s = true → s ∈ sts n
  start : K (List.replicate n 46) = true
  step : ∀ s, K s = true → ∀ t ∈ moves r s, K (mv s t) = true
  from_ : ∀ u, K u = true → u = List.replicate n 46 ∨ ∃ s t, K s = true ∧ t ∈ moves r s ∧ u = mv s t
/-- steps that the rules allow, one after the other -/
def Alw (r : List (List (List Nat))) : List Nat → List (List Nat) → Prop
  | _, [] => True
  | s, t :: l => t ∈ moves r s ∧ Alw r (mv s t) l
/-- a path that leads to s -/
def Pth (n : Nat) (r : List (List (List Nat))) (p : List (List Nat)) (s : List Nat) : Prop := Alw r (List.replicate n 46) p ∧ p.foldl mv (List.replicate n 46) = s
theorem Pth.nil (n : Nat) (r : List (List (List Nat))) : Pth n r [] (List.replicate n 46) := ⟨trivial, rfl⟩
theorem good_of {n i : Nat} {r : List (List (List Nat))} (hr : RulesOk n r) (hi : i < n) {s : List Nat} (h : s ∈ at_ r i) : goodE n i s = true := by
  unfold goodE
  rw [decide_eq_true (hr.sub hi h), decide_eq_true (hr.free i hi s h)]; rfl
theorem size_ok {p : Int} (h : 0 ≤ p ∧ p < 12) : ∃ n : Nat, ixR [(1 : Int), 2, 3, 4, 2, 3, 4, 3, 6, 3, 3, 5] p = .ok (n : Int) ∧ 1 ≤ n ∧ n ≤ 6 := by
  obtain ⟨a, ha, e⟩ := ixR_mem (x := [(1 : Int), 2, 3, 4, 2, 3, 4, 3, 6, 3, 3, 5]) (i := p) ⟨h.1, by simp; omega⟩
  simp only [List.mem_cons, List.not_mem_nil, or_false] at ha
  exact ⟨a.toNat, by rw [e]; congr 1; omega, by omega, by omega⟩
theorem cutL_nn {α : Type} (x : List α) {k : Int} (h : 0 ≤ k) : cutL x none (some k) = x.take k.toNat := by
  rw [← cutL_pre, Int.toNat_of_nonneg h]
/-- the dicts of the items before j are those of the rules -/
def Pj (n : Nat) (r : List (List (List Nat))) (j : Nat) (d : List (List (List Nat × Bool))) : Prop := d.length = n ∧ (∀ k, k < n → ∀ s, (getA (at_ d k) s).isSome = if k < j then memD s (at_ r k) else false) ∧ ∀ k, ((at_ d k).map (·.1)).Nodup
theorem Pj.nil {n : Nat} {r : List (List (List Nat))} : Pj n r 0 (List.replicate n []) := ⟨by simp, fun k hk s => by
  have e : at_ (List.replicate n ([] : List (List Nat × Bool))) k = [] := by
    unfold at_
    rw [List.getD_eq_getElem?_getD, List.getElem?_replicate]
    split <;> rfl
  rw [e, if_neg (by omega)]; rfl, fun k => by
  have e : at_ (List.replicate n ([] : List (List Nat × Bool))) k = [] := by
    unfold at_
    rw [List.getD_eq_getElem?_getD, List.getElem?_replicate]
    split <;> rfl
  rw [e]; exact List.nodup_nil⟩
theorem Pj.step {n j : Nat} {r : List (List (List Nat))} {d : List (List (List Nat × Bool))} (hp : Pj n r j d) (hj : j < n) {l : List (List Nat)} (hm : ∀ s, s ∈ l ↔ s ∈ at_ r j) : Pj n r (j + 1) (d.set j (ofA (l.map fun s => (s, true)))) := by
  refine ⟨by rw [List.length_set]; exact hp.1, fun k hk s => ?_, fun k => ?nd⟩
  case nd =>
    rw [at_set (by rw [hp.1]; exact hj)]
    split
    · exact ofA_nd _
    · exact hp.2.2 k
  rw [at_set (by rw [hp.1]; exact hj)]
  by_cases e : j = k
  · subst e
    rw [if_pos rfl, if_pos (by omega), getA_of, List.map_map]
    have : l.map ((fun x : List Nat × Bool => x.1) ∘ fun s => (s, true)) = l := by
      conv => rhs; rw [← List.map_id l]
      rfl
    rw [this]
    exact memD_congr (hm s)
  · rw [if_neg e, hp.2.1 k hk s]
    by_cases h : k < j
    · rw [if_pos h, if_pos (by omega)]
    · rw [if_neg h, if_neg (by omega)]
theorem Pj.done {n : Nat} {r : List (List (List Nat))} {d : List (List (List Nat × Bool))} (hr : r.length = n) (hp : Pj n r n d) : BookIs d r := ⟨by rw [hp.1, hr], fun k hk s => by rw [hr] at hk; rw [hp.2.1 k hk s, if_pos hk], hp.2.2⟩
end PL
set_option Elab.async false
set_option linter.all false
set_option maxRecDepth 100000
set_option maxHeartbeats 4000000
set_option autoImplicit false
namespace PL
open PySem LK LJ
/-- a step that fits -/
def Lg (s t : List Nat) : Prop := (∃ i, t = lk i ∧ s[i]? = some 46) ∨ ∃ i, t = rl i ∧ s[i]? = some 104
def Legal : List Nat → List (List Nat) → Prop
  | _, [] => True
  | s, t :: l => Lg s t ∧ Legal (mv s t) l
def run (s : List Nat) (l : List (List Nat)) : List Nat := l.foldl mv s
theorem Lg.lt {s t : List Nat} (h : Lg s t) : ∃ i, i < s.length ∧ (t = lk i ∧ s[i]? = some 46 ∨ t = rl i ∧ s[i]? = some 104) := by
  rcases h with ⟨i, h1, h2⟩ | ⟨i, h1, h2⟩
  · exact ⟨i, (List.getElem?_eq_some_iff.mp h2).1, .inl ⟨h1, h2⟩⟩
  · exact ⟨i, (List.getElem?_eq_some_iff.mp h2).1, .inr ⟨h1, h2⟩⟩
theorem Lg.len {s t : List Nat} (h : Lg s t) : (mv s t).length = s.length := by
  rcases h with ⟨i, rfl, _⟩ | ⟨i, rfl, _⟩
  · rw [mv_lk, List.length_set]
  · rw [mv_rl, List.length_set]
theorem run_len : ∀ {l : List (List Nat)} {s : List Nat}, Legal s l → (run s l).length = s.length
  | [], _, _ => rfl
  | t :: l, s, h => by
    show (run (mv s t) l).length = _
    rw [run_len h.2, h.1.len]
theorem run_app (s : List Nat) (a b : List (List Nat)) : run s (a ++ b) = run (run s a) b := List.foldl_append
theorem legal_app : ∀ {a b : List (List Nat)} {s : List Nat}, Legal s (a ++ b) ↔ Legal s a ∧ Legal (run s a) b
  | [], b, s => ⟨fun h => ⟨trivial, h⟩, fun h => h.2⟩
  | t :: a, b, s => by
    show Lg s t ∧ Legal (mv s t) (a ++ b) ↔ (Lg s t ∧ Legal (mv s t) a) ∧ Legal (run (mv s t) a) b
    rw [legal_app]
    exact ⟨fun h => ⟨⟨h.1, h.2.1⟩, h.2.2⟩, fun h => ⟨h.1.1, h.1.2, h.2⟩⟩
theorem Legal.take {l : List (List Nat)} {s : List Nat} (h : Legal s l) (c : Nat) : Legal s (l.take c) := by
  rw [← List.take_append_drop c l] at h
  exact (legal_app.mp h).1
theorem Legal.at_ {l : List (List Nat)} {s : List Nat} (h : Legal s l) {c : Nat} (hc : c < l.length) : Lg (run s (l.take c)) l[c] := by
  rw [← List.take_append_drop c l] at h
  have := (legal_app.mp h).2
  rw [List.drop_eq_getElem_cons hc] at this
  exact this.1
theorem run_succ {l : List (List Nat)} (s : List Nat) {c : Nat} (hc : c < l.length) : run s (l.take (c + 1)) = mv (run s (l.take c)) l[c] := by
  rw [List.take_add_one, List.getElem?_eq_getElem hc, run_app]; rfl
/-- a whole program over six items -/
def st6 : List Nat := [46, 46, 46, 46, 46, 46]
structure Prog (p : List (List Nat)) : Prop where
  leg : Legal st6 p
  fin : 104 ∉ run st6 p
  len : p.length ≤ 1000
theorem st6_at {d : Nat} : st6[d]? = some 46 ↔ d < 6 := by
  constructor
  · intro h
    exact (List.getElem?_eq_some_iff.mp h).1
  · intro h
    have : d = 0 ∨ d = 1 ∨ d = 2 ∨ d = 3 ∨ d = 4 ∨ d = 5 := by omega
    rcases this with rfl | rfl | rfl | rfl | rfl | rfl <;> rfl
theorem st6_no {d : Nat} : st6[d]? ≠ some 104 := fun h => by
  have := st6_at.mpr (List.getElem?_eq_some_iff.mp h).1
  rw [h] at this; cases this
/-- p holds d behind its first c steps -/
def Hd (p : List (List Nat)) (c d : Nat) : Prop := (run st6 (p.take c))[d]? = some 104
theorem Prog.step {p : List (List Nat)} (h : Prog p) {c : Nat} (hc : c < p.length) : ∃ i, i < 6 ∧ ((p[c] = lk i ∧ ∀ d, Hd p (c + 1) d ↔ d = i ∨ Hd p c d) ∨ (p[c] = rl i ∧ Hd p c i ∧ ∀ d, Hd p (c + 1) d ↔ d ≠ i ∧ Hd p c d)) := by
  obtain ⟨i, hi, hh⟩ := (h.leg.at_ hc).lt
  have hi' := hi
  rw [run_len (h.leg.take c)] at hi
  refine ⟨i, hi, ?_⟩
  unfold Hd
  rw [run_succ st6 hc]
  rcases hh with ⟨q, hq⟩ | ⟨q, hq⟩
  · refine .inl ⟨q, fun d => ?_⟩
    rw [q, mv_lk]
    by_cases e : i = d
    · subst e
      rw [List.getElem?_set_self hi']; simp
    · rw [List.getElem?_set_ne e]
      exact ⟨.inr, fun z => z.elim (fun q => absurd q.symm e) id⟩
  · refine .inr ⟨q, hq, fun d => ?_⟩
    rw [q, mv_rl]
    by_cases e : i = d
    · subst e
      rw [List.getElem?_set_self hi']; simp
    · rw [List.getElem?_set_ne e]
      exact ⟨fun z => ⟨fun q => e q.symm, z⟩, fun z => z.2⟩
theorem getA_drop {κ β : Type} [DecidableEq κ] (d : List (κ × β)) (k k' : κ) : getA (dropA d k) k' = if k = k' then none else getA d k' := by
  unfold getA dropA
  rw [List.find?_filter]
  by_cases e : k = k'
  · subst e
    rw [if_pos rfl]
    have : d.find? (fun a => decide (decide (a.1 ≠ k) = true ∧ decide (a.1 = k) = true)) = none := by
      rw [List.find?_eq_none]
      intro x _ hx
      have := of_decide_eq_true hx
      exact (of_decide_eq_true this.1) (of_decide_eq_true this.2)
    rw [this]; rfl
  · rw [if_neg e]
    congr 2
    funext a
    by_cases h : a.1 = k'
    · have : a.1 ≠ k := fun q => e (q.symm.trans h)
      simp [h, show ¬ k' = k from fun q => e (Eq.symm q)]
    · simp [h]
/-- who holds what, behind the first cs k steps of each program k -/
structure Held (ps : List (List (List Nat))) (cs : List Nat) (h : List (List Nat × Int)) : Prop where
  len : cs.length = ps.length
  le : ∀ (k : Nat) (p : List (List Nat)) (c : Nat), ps[k]? = some p → cs[k]? = some c → c ≤ p.length
  key : ∀ d : Nat, (getA h [48 + d]).isSome = true ↔ ∃ (k : Nat) (p : List (List Nat)) (c : Nat), ps[k]? = some p ∧ cs[k]? = some c ∧ Hd p c d
  one : ∀ (d k k' : Nat) (p p' : List (List Nat)) (c c' : Nat), ps[k]? = some p → cs[k]? = some c → ps[k']? = some p' → cs[k']? = some c' → Hd p c d → Hd p' c' d → k = k'
theorem Hd_zero (p : List (List Nat)) (d : Nat) : ¬ Hd p 0 d := fun h => by
  unfold Hd at h
  rw [List.take_zero] at h
  exact st6_no h
theorem Held.nil {ps : List (List (List Nat))} : Held ps (ps.map fun _ => 0) [] := by
  have z : ∀ (k c : Nat), (ps.map fun _ => 0)[k]? = some c → c = 0 := fun k c h => by
    rw [List.getElem?_map] at h
    cases e : ps[k]? with
    | none => rw [e] at h; cases h
    | some p => rw [e] at h; exact (Option.some.inj h).symm
  refine ⟨by simp, fun k p c _ hc => by rw [z k c hc]; exact Nat.zero_le _, fun d => ⟨fun h => (by cases h), ?_⟩, fun d k k' p p' c c' _ hc _ _ h _ => ?_⟩
  · rintro ⟨k, p, c, _, hc, h⟩
    rw [z k c hc] at h
    exact absurd h (Hd_zero _ _)
  · rw [z k c hc] at h
    exact absurd h (Hd_zero _ _)
theorem key_inj {a b : Nat} : ([48 + a] : List Nat) = [48 + b] ↔ a = b := by
  constructor
  · intro h
    have : 48 + a = 48 + b := by simpa using h
    omega
  · intro h; rw [h]
section
variable {ps : List (List (List Nat))} {cs : List Nat} {h : List (List Nat × Int)} {k c i : Nat} {p : List (List Nat)}
theorem Held.set_at (hh : Held ps cs h) (hk : k < ps.length) (x : Nat) (k' c' : Nat) : (cs.set k x)[k']? = some c' ↔ (k' = k ∧ c' = x) ∨ (k' ≠ k ∧ cs[k']? = some c') := by
  by_cases e : k = k'
  · subst e
    rw [List.getElem?_set_self (by rw [hh.len]; exact hk)]
    simp [eq_comm]
  · rw [List.getElem?_set_ne e]
    simp [show ¬ k' = k from fun q => e (Eq.symm q)]
/-- a release -/
theorem Held.rel (hp : ∀ p ∈ ps, Prog p) (hh : Held ps cs h) (e1 : ps[k]? = some p) (e2 : cs[k]? = some c) (hc : c < p.length) (hi : Hd p c i) (hs : ∀ d, Hd p (c + 1) d ↔ d ≠ i ∧ Hd p c d) : (getA h [48 + i]).isSome = true ∧ Held ps (cs.set k (c + 1)) (dropA h [48 + i]) := by
  have hk := (List.getElem?_eq_some_iff.mp e1).1
  refine ⟨(hh.key i).mpr ⟨k, p, c, e1, e2, hi⟩, by rw [List.length_set]; exact hh.len, fun k' p' c' a b => ?_, fun d => ?_, fun d k1 k2 p1 p2 c1 c2 a1 b1 a2 b2 h1 h2 => ?_⟩
  · rcases (hh.set_at hk _ _ _).mp b with ⟨rfl, rfl⟩ | ⟨_, b⟩
    · rw [e1] at a; cases a; exact hc
    · exact hh.le k' p' c' a b
  · rw [getA_drop]
    by_cases e : i = d
    · subst e
      rw [if_pos rfl]
      refine ⟨fun z => (by cases z), ?_⟩
      rintro ⟨k', p', c', a, b, z⟩
      rcases (hh.set_at hk _ _ _).mp b with ⟨rfl, rfl⟩ | ⟨nk, b⟩
      · rw [e1] at a; cases a
        exact absurd rfl ((hs i).mp z).1
      · exact absurd (hh.one i _ _ _ _ _ _ a b e1 e2 z hi) nk
    · rw [if_neg (fun q => e (key_inj.mp q)), hh.key]
      constructor
      · rintro ⟨k', p', c', a, b, z⟩
        by_cases ek : k' = k
        · subst ek
          rw [e1] at a; cases a
          rw [e2] at b; cases b
          exact ⟨k', p, c + 1, e1, (hh.set_at hk _ _ _).mpr (.inl ⟨rfl, rfl⟩), (hs d).mpr ⟨fun q => e q.symm, z⟩⟩
        · exact ⟨k', p', c', a, (hh.set_at hk _ _ _).mpr (.inr ⟨ek, b⟩), z⟩
      · rintro ⟨k', p', c', a, b, z⟩
        rcases (hh.set_at hk _ _ _).mp b with ⟨rfl, rfl⟩ | ⟨_, b⟩
        · rw [e1] at a; cases a
          exact ⟨k', p, c, e1, e2, ((hs d).mp z).2⟩
        · exact ⟨k', p', c', a, b, z⟩
  · have back : ∀ {k' : Nat} {p' : List (List Nat)} {c' : Nat}, ps[k']? = some p' → (cs.set k (c + 1))[k']? = some c' → Hd p' c' d → ∃ c'', cs[k']? = some c'' ∧ Hd p' c'' d := fun {k' p' c'} a b z => by
      rcases (hh.set_at hk _ _ _).mp b with ⟨rfl, rfl⟩ | ⟨_, b⟩
      · rw [e1] at a; cases a
        exact ⟨c, e2, ((hs d).mp z).2⟩
      · exact ⟨c', b, z⟩
    obtain ⟨c1', b1', h1'⟩ := back a1 b1 h1
    obtain ⟨c2', b2', h2'⟩ := back a2 b2 h2
    exact hh.one d _ _ _ _ _ _ a1 b1' a2 b2' h1' h2'
end
end PL
set_option Elab.async false
set_option linter.all false
set_option maxRecDepth 100000
set_option maxHeartbeats 4000000
set_option autoImplicit false
namespace R
end R
namespace PL
open PySem L2 LK LKX LKB LJ PyProof.Rows PySem.Spec
/-- by induction along the steps -/
theorem Reach.ind {n : Nat} {r : List (List (List Nat))} {K : List Nat → Bool} (h : Reach n r K) {P : List Nat → Prop} (h0 : P (List.replicate n 46)) (hs : ∀ s t, K s = true → P s → t ∈ moves r s → P (mv s t)) : ∀ u, K u = true → P u := by
  have go : ∀ m u, mu u = m → K u = true → P u := by
    intro m
    induction m using Nat.strongRecOn with
    | _ m ih =>
      intro u hm hu
      rcases h.from_ u hu with rfl | ⟨s, t, h1, h2, rfl⟩
      · exact h0
      · have := mu_mv h2
        exact hs s t h1 (ih (mu s) (by omega) s rfl h1) h2
  exact fun u => go _ u rfl
theorem moves_le {r r' : List (List (List Nat))} {s t : List Nat} (h : ∀ i, s ∈ at_ r i → s ∈ at_ r' i) (ht : t ∈ moves r s) : t ∈ moves r' s := by
  rcases mem_moves.mp ht with ⟨i, e, h1, h2⟩ | ⟨i, e, h1⟩
  · exact mem_moves.mpr (.inl ⟨i, e, h1, h i h2⟩)
  · exact mem_moves.mpr (.inr ⟨i, e, h1⟩)
theorem Reach.le {n : Nat} {r r' : List (List (List Nat))} {K K' : List Nat → Bool} (h : Reach n r K) (h' : Reach n r' K') (hs : ∀ s, K s = true → ∀ i, s ∈ at_ r i → s ∈ at_ r' i) : ∀ s, K s = true → K' s = true :=
  h.ind h'.start fun s t h1 h2 h3 => h'.step s h2 t (moves_le (hs s h1) h3)
theorem at_out {α : Type} {r : List (List α)} {i : Nat} (h : r.length ≤ i) : at_ r i = [] := by
  unfold at_
  rw [List.getD_eq_getElem?_getD, List.getElem?_eq_none h]; rfl
/-- taken items -/
def tk (s : List Nat) : List Nat := (List.range s.length).filter fun i => decide (s[i]? = some 104) || decide (s[i]? = some 114)
end PL
namespace PL
open PySem L2 LK LKX LKB LJ PyProof.Rows PySem.Spec
/-- rules in any order -/
structure RulesW (n : Nat) (r : List (List (List Nat))) : Prop where
  len : r.length = n
  sub : ∀ i, i < n → ∀ s ∈ at_ r i, s ∈ sts n
  free : ∀ i, i < n → ∀ s ∈ at_ r i, s[i]? = some 46
  nd : ∀ i, (at_ r i).Nodup
theorem RulesOk.w {n : Nat} {r : List (List (List Nat))} (h : RulesOk n r) : RulesW n r := ⟨h.len, fun i hi s hs => h.sub hi hs, h.free, fun i => by
  by_cases hi : i < n
  · rw [← h.flt i hi]; exact (sts_nodup n).sublist List.filter_sublist
  · rw [at_out (by rw [h.len]; omega)]; exact List.nodup_nil⟩
theorem RulesW.set {n : Nat} {r : List (List (List Nat))} (h : RulesW n r) {i : Nat} (hi : i < n) {x : List (List Nat)} (h1 : ∀ s ∈ x, s ∈ sts n) (h2 : ∀ s ∈ x, s[i]? = some 46) (h3 : x.Nodup) : RulesW n (r.set i x) := by
  refine ⟨by rw [List.length_set]; exact h.len, fun j hj s hs => ?_, fun j hj s hs => ?_, fun j => ?_⟩
  · rw [at_set (by rw [h.len]; exact hi)] at hs
    split at hs
    · exact h1 s hs
    · exact h.sub j hj s hs
  · rw [at_set (by rw [h.len]; exact hi)] at hs
    split at hs
    · rename_i e; subst e; exact h2 s hs
    · exact h.free j hj s hs
  · rw [at_set (by rw [h.len]; exact hi)]
    split
    · exact h3
    · exact h.nd j
end PL
namespace PL
open PySem L2 LK LKX LKB LJ PyProof.Rows PySem.Spec
/-- one more state at the end of a rule -/
theorem RulesW.add {n j : Nat} {t : List (List (List Nat))} (h : RulesW n t) (hj : j < n) {s : List Nat} (hs : s ∈ sts n) (hf : s[j]? = some 46) (hn : s ∉ at_ t j) : RulesW n (t.set j (at_ t j ++ [s])) := by
  refine h.set hj (fun u hu => ?_) (fun u hu => ?_) ?_
  · rcases List.mem_append.mp hu with hu | hu
    · exact h.sub j hj u hu
    · rw [List.mem_singleton.mp hu]; exact hs
  · rcases List.mem_append.mp hu with hu | hu
    · exact h.free j hj u hu
    · rw [List.mem_singleton.mp hu]; exact hf
  · refine List.nodup_append.mpr ⟨h.nd j, List.nodup_cons.mpr ⟨by simp, List.nodup_nil⟩, fun a ha b hb => ?_⟩
    rw [List.mem_singleton.mp hb]
    exact fun e => hn (e ▸ ha)
end PL
set_option Elab.async false
set_option linter.all false
set_option maxRecDepth 100000
set_option maxHeartbeats 4000000
set_option autoImplicit false
namespace PL
open PySem L2 LK LKX LKB LJ PyProof.Rows PySem.Spec
abbrev lsT (a b : List (List Nat)) : Bool := lsLt (fun x y : List Nat => decide (x < y)) a b
theorem lsT_cons (x y : List Nat) (a b : List (List Nat)) : lsT (x :: a) (y :: b) = if x = y then lsT a b else decide (x < y) := rfl
theorem lsT_irr : ∀ a : List (List Nat), lsT a a = false
  | [] => rfl
  | x :: a => by rw [lsT_cons, if_pos rfl]; exact lsT_irr a
theorem lsT_trans : ∀ {a b c : List (List Nat)}, lsT a b = true → lsT b c = true → lsT a c = true
  | [], [], _, h, _ => nomatch h
  | [], _ :: _, [], _, h => nomatch h
  | [], _ :: _, _ :: _, _, _ => rfl
  | _ :: _, [], _, h, _ => nomatch h
  | _ :: _, _ :: _, [], _, h => nomatch h
  | x :: a, y :: b, z :: c, h1, h2 => by
    rw [lsT_cons] at h1 h2 ⊢
    by_cases e1 : x = y
    · subst e1
      rw [if_pos rfl] at h1
      by_cases e2 : x = z
      · subst e2
        rw [if_pos rfl] at h2 ⊢
        exact lsT_trans h1 h2
      · rw [if_neg e2] at h2 ⊢; exact h2
    · rw [if_neg e1, decide_eq_true_iff] at h1
      by_cases e2 : y = z
      · subst e2
        rw [if_neg e1, decide_eq_true_iff]; exact h1
      · rw [if_neg e2, decide_eq_true_iff] at h2
        have h3 := List.lt_trans h1 h2
        rw [if_neg (fun e => by subst e; exact List.lt_irrefl _ h3), decide_eq_true_iff]
        exact h3
/-- the shorter, then the less -/
def lp (a b : List (List Nat)) : Bool := if a.length = b.length then lsT a b else decide (a.length < b.length)
theorem lp_irr (a : List (List Nat)) : lp a a = false := by
  unfold lp; rw [if_pos rfl]; exact lsT_irr a
theorem lp_trans {a b c : List (List Nat)} (h1 : lp a b = true) (h2 : lp b c = true) : lp a c = true := by
  unfold lp at h1 h2 ⊢
  by_cases e1 : a.length = b.length
  · rw [if_pos e1] at h1
    rw [e1]
    by_cases e2 : b.length = c.length
    · rw [if_pos e2] at h2 ⊢; exact lsT_trans h1 h2
    · rw [if_neg e2] at h2 ⊢; exact h2
  · rw [if_neg e1, decide_eq_true_iff] at h1
    by_cases e2 : b.length = c.length
    · rw [if_neg (by omega), decide_eq_true_iff]; omega
    · rw [if_neg e2, decide_eq_true_iff] at h2
      rw [if_neg (by omega), decide_eq_true_iff]; omega
/-- least among those with P -/
structure Lst (P : List (List Nat) → Prop) (o : Option (List (List Nat))) : Prop where
  none_ : o = none → ∀ p, ¬ P p
  some_ : ∀ p, o = some p → P p
  least : ∀ p, o = some p → ∀ q, P q → lp q p = false
/-- one more is seen -/
theorem Lst.add {P : List (List Nat) → Prop} {o : Option (List (List Nat))} (h : Lst P o) (x : List (List Nat)) (hx : o = none ∨ ∃ p, o = some p ∧ lp x p = true) : Lst (fun p => P p ∨ p = x) (some x) :=
  ⟨(fun e => nomatch e), fun p e => by cases e; exact .inr rfl, fun p e q hq => by
    cases e
    rcases hq with hq | rfl
    · rcases hx with h0 | ⟨p, hp, hl⟩
      · exact absurd hq (h.none_ h0 q)
      · rw [← Bool.not_eq_true]
        intro z
        have := lp_trans z hl
        rw [h.least p hp q hq] at this; cases this
    · exact lp_irr q⟩
theorem Lst.keep {P : List (List Nat) → Prop} {p : List (List Nat)} (h : Lst P (some p)) (x : List (List Nat)) (hx : lp x p = false) : Lst (fun p => P p ∨ p = x) (some p) :=
  ⟨(fun e => nomatch e), fun q e => .inl (h.some_ q e), fun p' e q hq => by
    cases e
    rcases hq with hq | rfl
    · exact h.least p rfl q hq
    · exact hx⟩
theorem alw_mu {r : List (List (List Nat))} : ∀ {p : List (List Nat)} {s : List Nat}, Alw r s p → mu (p.foldl mv s) = mu s + p.length
  | [], _, _ => rfl
  | t :: p, s, h => by
    rw [List.foldl_cons, alw_mu h.2, mu_mv h.1, List.length_cons]; omega
theorem Pth.len {n : Nat} {r : List (List (List Nat))} {p : List (List Nat)} {s : List Nat} (h : Pth n r p s) : p.length = mu s := by
  have := alw_mu h.1
  rw [h.2, mu_start] at this; omega
end PL
set_option maxHeartbeats 4000000
namespace Zk08
open PySem L2 LK LKX LKB LJ LG PyProof.Rows PySem.Spec
def h_BadItem (k : Nat) : Option Bool := if k = 4 then some false else if k = 5 then some true else if k = 6 then some false else none
theorem h_BadItem_k {k : Nat} (h : h_BadItem k = some true) : k = 5 := by
  unfold h_BadItem at h
  repeat' (split at h)
  all_goals (first | assumption | (cases h; done))
def h_BadState (k : Nat) : Option Bool := if k = 4 then some false else if k = 5 then some false else if k = 6 then some true else none
theorem h_BadState_k {k : Nat} (h : h_BadState k = some true) : k = 6 := by
  unfold h_BadState at h
  repeat' (split at h)
  all_goals (first | assumption | (cases h; done))
def m_start (v_size : Int) : R Er (List Nat) :=
  (cond (cond (decide (v_size < (1 : Int))) true (decide ((6 : Int) < v_size))) ((let y1 := v_size
(R.er (4, [Tod.d rInt y1]))))
((repR ([46] : List Nat) v_size)))
def m_all_states_s1 (t1 : (List (List Nat))) (x1 : Int) : R Er (List (List Nat)) :=
let v_rows2 := t1
let v_place1 := x1
(((R.mapR (fun _ => (R.ok true : R Er Bool)) (fun x2 => ((R.ok (([46, 104, 114] : List Nat).map fun c => [c]))).bind fun ys => (R.mapR (fun _ => (R.ok true : R Er Bool)) (fun x3 => ((catR x2 x3) : R Er (List Nat))) ys : R Er (List (List Nat)))) v_rows2).bind fun zs => lenR zs.flatten)).bind fun v_rows3 =>
(R.ok v_rows3)
def m_all_states (v_size : Int) : R Er (List (List Nat)) :=
  ((lenR ([([] : List Nat)] : List (List Nat)))).bind fun v_rows1 =>
((((((m_start v_size)).bind fun y1 => R.ok (y1.length : Int))).bind fun y2 => (rngR y2))).bind fun y3 =>
(R.foldR (m_all_states_s1) v_rows1 y3).bind fun t2 =>
let v_rows4 := t2
(R.ok v_rows4)
def m_is_state (v_size : Int) (v_state : (List Nat)) : R Er Bool :=
  (cond (decide ((v_state.length : Int) = v_size)) (((R.mapR (fun _ => (R.ok true : R Er Bool)) (fun x1 => ((inTR x1 ([46, 104, 114] : List Nat)) : R Er Bool)) (v_state.map fun c => [c]))).bind fun y1 => R.ok (y1.all id)) (R.ok false))
def m_check_item (v_size : Int) (v_item : Int) : R Er Unit :=
  (cond (cond (decide (v_item < (0 : Int))) true (decide (v_size ≤ v_item))) ((let y1 := v_item
(R.er (5, [Tod.d rInt y1]))))
((R.ok ())))
def m_check_entry (v_size : Int) (v_item : Int) (v_state : (List Nat)) : R Er Unit :=
  (((((((m_is_state v_size v_state)).bind fun y1 => R.ok (!y1))).bind fun y3 => (cond y3 (R.ok true) (((ixTR v_state v_item)).bind fun y2 => R.ok (!decide (y2 = ([46] : List Nat))))))).bind fun y5 => cond y5 ((let y4 := v_state
(R.er (6, [Tod.d rTx y4]))))
((R.ok ())))
def m_Book_init_s1 (v_size : Int) (t1 : Unit) (x1 : (Int × (List Nat))) : R (Er × Unit) Unit :=
let v_item1 := x1.1
let v_state1 := x1.2
((m_check_item v_size v_item1)).thn (fun y => (y, ())) fun _ =>
(R.ok ())
def m_Book_init_s2 (v_size : Int) (t3 : Unit) (x2 : (Int × (List Nat))) : R (Er × Unit) Unit :=
let v_item2 := x2.1
let v_state2 := x2.2
((m_check_entry v_size v_item2 v_state2)).thn (fun y => (y, ())) fun _ =>
(R.ok ())
def m_Book_init (v_size : Int) (v_entries : (List (Int × (List Nat)))) : R (Er × Unit) (List (List ((List Nat) × Bool))) :=
  ((m_start v_size)).thn (fun y => (y, ())) fun v_first1 =>
let v_rows1 := v_entries
(R.foldR (m_Book_init_s1 v_size) () v_rows1).bind fun t2 =>
(R.foldR (m_Book_init_s2 v_size) () v_rows1).bind fun t4 =>
((((rngR (v_first1.length : Int))).bind fun y1 => (R.mapR (fun _ => (R.ok true : R Er Bool)) (fun x3 => (((R.mapR (fun x4 => ((R.ok (decide (x4.1 = x3))) : R Er Bool)) (fun x4 => ((R.ok x4.2)).bind fun dk => ((R.ok true)).bind fun dv => (R.ok (dk, dv) : R Er ((List Nat) × Bool))) v_rows1).bind fun dl => R.ok (ofA dl)) : R Er (List ((List Nat) × Bool)))) y1))).thn (fun y => (y, ())) fun v_self1 =>
(R.ok v_self1)
def m_Book_size (v_self : (List (List ((List Nat) × Bool)))) : R Er Int :=
  (R.ok (v_self.length : Int))
def m_Book_getitem (v_self : (List (List ((List Nat) × Bool)))) (v_item : Int) : R Er (List (List Nat)) :=
  ((m_check_item (v_self.length : Int) v_item)).bind fun _ =>
((ixR v_self v_item)).bind fun v_rule1 =>
(((m_all_states (v_self.length : Int))).bind fun y1 => (R.mapR (fun x1 => ((R.ok ((getA v_rule1 x1).isSome)) : R Er Bool)) (fun x1 => ((R.ok x1) : R Er (List Nat))) y1))
def m_Book_entries_s2 (v_self : (List (List ((List Nat) × Bool)))) (v_item1 : Int) (t : (Unit × List (Int × (List Nat)))) (x2 : (List Nat)) : R Er (Unit × List (Int × (List Nat))) :=
let v_state1 := x2
((((ixR v_self v_item1)).bind fun y1 => R.ok ((getA y1 v_state1).isSome))).bind fun b1 => cond b1 (R.iff (t.2.length < 16777216) ((R.ok ((), (t.2 ++ [(v_item1, v_state1)])) : R Er (Unit × List (Int × (List Nat)))))) (R.ok ((), t.2))
def m_Book_entries_s1 (v_self : (List (List ((List Nat) × Bool)))) (t : (Unit × List (Int × (List Nat)))) (x1 : Int) : R Er (Unit × List (Int × (List Nat))) :=
let v_item1 := x1
((m_all_states (v_self.length : Int))).bind fun y2 => (R.foldR (m_Book_entries_s2 v_self v_item1) ((), t.2) y2)
def m_Book_entries_z (zs : List (Int × (List Nat))) (v_self : (List (List ((List Nat) × Bool)))) : R Er (List (Int × (List Nat))) :=
  (((rngR (v_self.length : Int))).bind fun y3 => (R.foldR (m_Book_entries_s1 v_self) ((), zs) y3)).bind fun q => R.ok q.2
def m_Book_entries (v_self : (List (List ((List Nat) × Bool)))) : R Er (List (Int × (List Nat))) := (m_Book_entries_z [] v_self).noer.bind lenR
def m_law_cell (v_law_script : (List Int)) (v_law_k : Int) : R Er Int :=
  (cond (decide (v_law_k < (v_law_script.length : Int))) ((ixR v_law_script v_law_k))
((R.ok (0 : Int))))
def m_law_numbers_s1 (v_law_limit : Int) (t1 : (Int × (List Int) × Int)) (x1 : Int) : R Er (Int × (List Int) × Int) :=
let v_law_mixed2 := t1.1
let v_law_row2 := t1.2.1
let v_law_left4 := t1.2.2
let v_law_k1 := x1
((((((((((mulR v_law_mixed2 (48271 : Int))).bind fun y3 => ((mulR (10007 : Int) v_law_k1)).bind fun y4 => R.ok (y3 + y4))).bind fun y5 => R.ok (y5 + (12345 : Int)))).bind fun y6 => R.ok y6)).bind fun y7 => (modR y7 (2147483647 : Int)))).bind fun v_law_mixed3 =>
((cond (decide ((0 : Int) < v_law_left4)) (((modR v_law_left4 v_law_limit)).bind fun y8 =>
(appR v_law_row2 y8).bind fun v_law_row4 =>
((divR v_law_left4 v_law_limit)).bind fun v_law_left6 =>
(R.ok (v_law_row4, v_law_left6)))
(((((divR v_law_mixed3 (1021 : Int))).bind fun y9 => (modR y9 v_law_limit))).bind fun y10 =>
(appR v_law_row2 y10).bind fun v_law_row5 =>
(R.ok (v_law_row5, v_law_left4))))).bind fun s2 =>
let v_law_row3 := s2.1
let v_law_left5 := s2.2
(R.ok (v_law_mixed3, v_law_row3, v_law_left5))
def m_law_numbers (v_law_cell_here : Int) (v_law_many : Int) (v_law_limit : Int) : R Er (List Int) :=
  let v_law_left1 := (0 : Int)
((((((powR (10 : Int) (18 : Int))).bind fun y1 => R.ok (decide (y1 ≤ v_law_cell_here)))).bind fun y12 => cond y12 (((((powR (10 : Int) (18 : Int))).bind fun y2 => R.ok (v_law_cell_here - y2))).bind fun v_law_left3 =>
(R.ok v_law_left3))
((R.ok v_law_left1)))).bind fun s1 =>
let v_law_left2 := s1
((modR v_law_cell_here (2147483647 : Int))).bind fun v_law_mixed1 =>
let v_law_row1 := ([] : List Int)
((rngR v_law_many)).bind fun y11 =>
(R.foldR (m_law_numbers_s1 v_law_limit) (v_law_mixed1, v_law_row1, v_law_left2) y11).bind fun t2 =>
let v_law_mixed4 := t2.1
let v_law_row6 := t2.2.1
let v_law_left7 := t2.2.2
(R.ok v_law_row6)
def m_law_states_s3 (v_law_row1 : (List Nat)) (t3 : (List (List Nat))) (x3 : (List Nat)) : R Er (List (List Nat)) :=
let v_law_grown3 := t3
let v_law_sign1 := x3
((catR v_law_row1 v_law_sign1)).bind fun y1 =>
(appR v_law_grown3 y1).bind fun v_law_grown4 =>
(R.ok v_law_grown4)
def m_law_states_s2 (t2 : (List (List Nat))) (x2 : (List Nat)) : R Er (List (List Nat)) :=
let v_law_grown2 := t2
let v_law_row1 := x2
(R.foldR (m_law_states_s3 v_law_row1) v_law_grown2 (([46, 104, 114] : List Nat).map fun c => [c])).bind fun t4 =>
let v_law_grown5 := t4
(R.ok v_law_grown5)
def m_law_states_s1 (t1 : (List (List Nat))) (x1 : Int) : R Er (List (List Nat)) :=
let v_law_rows2 := t1
let v_law_k1 := x1
let v_law_grown1 := ([] : List (List Nat))
(R.foldR (m_law_states_s2) v_law_grown1 v_law_rows2).bind fun t5 =>
let v_law_grown6 := t5
let v_law_rows3 := v_law_grown6
(R.ok v_law_rows3)
def m_law_states (v_law_size : Int) : R Er (List (List Nat)) :=
  ((lenR ([([] : List Nat)] : List (List Nat)))).bind fun v_law_rows1 =>
((rngR v_law_size)).bind fun y2 =>
(R.foldR (m_law_states_s1) v_law_rows1 y2).bind fun t6 =>
let v_law_rows4 := t6
(R.ok v_law_rows4)
def m_law_chance (v_law_mode : Int) (v_law_state : (List Nat)) : R Er Int :=
  ((((cntTR v_law_state ([46] : List Nat))).bind fun y1 => R.ok ((v_law_state.length : Int) - y1))).bind fun v_law_many1 =>
(cond (decide (v_law_many1 = (0 : Int))) ((R.ok (9 : Int)))
((cond (decide (v_law_mode = (1 : Int))) ((R.ok (3 : Int)))
((cond (decide (v_law_mode = (2 : Int))) ((((((niTR ([114] : List Nat) v_law_state)).bind fun y2 => R.ok (cond y2 (1 : Int) 0))).bind fun y3 => (mulR (8 : Int) y3)))
((((cond (decide (v_law_mode = (3 : Int))) (((((cntTR v_law_state ([104] : List Nat))).bind fun y4 => R.ok (decide (y4 = (1 : Int))))).bind fun y5 => (cond y5 (R.ok (decide (v_law_many1 < (3 : Int)))) (R.ok false))) (R.ok false))).bind fun y7 => cond y7 ((((lenR ([(5 : Int), (3 : Int)] : List Int))).bind fun y6 => (ixR y6 (v_law_many1 - (1 : Int)))))
((cond (decide (v_law_mode = (3 : Int))) ((R.ok (0 : Int)))
((R.ok (6 : Int))))))))))))
def m_law_key (v_law_mode : Int) (v_law_state : (List Nat)) : R Er (List Nat) :=
  (((cond (!decide (v_law_mode = (4 : Int))) (R.ok true) (niTR ([114] : List Nat) v_law_state))).bind fun y1 => cond y1 ((R.ok v_law_state))
((R.iff (v_law_state.length ≤ 1000000) (cond (decide (104 ∈ v_law_state)) (R.ok (replT 114 46 v_law_state))
((repR ([114] : List Nat) (v_law_state.length : Int)))))))
def m_law_rules_s1 (v_law_states_here1 : (List (List Nat))) (t1 : (List ((List Nat) × Int))) (x1 : Int) : R Er (List ((List Nat) × Int)) :=
let v_law_place2 := t1
let v_law_k1 := x1
((ixR v_law_states_here1 v_law_k1)).bind fun y2 =>
(putR v_law_place2 y2 v_law_k1).bind fun v_law_place3 =>
(R.ok v_law_place3)
def m_law_rules_s3 (v_law_mode : Int) (v_law_states_here1 : (List (List Nat))) (v_law_numbers_here1 : (List Int)) (v_law_place4 : (List ((List Nat) × Int))) (v_law_item1 : Int) (t4 : (List (List Nat))) (x3 : (List Nat)) : R Er (List (List Nat)) :=
let v_law_row2 := t4
let v_law_state1 := x3
((((((mulR v_law_item1 (v_law_states_here1.length : Int))).bind fun y4 => ((((m_law_key v_law_mode v_law_state1)).bind fun y3 => (getR v_law_place4 y3))).bind fun y5 => R.ok (y4 + y5))).bind fun y6 => (ixR v_law_numbers_here1 y6))).bind fun v_law_number1 =>
((((((((ixTR v_law_state1 v_law_item1)).bind fun y7 => R.ok (decide (y7 = ([46] : List Nat))))).bind fun y9 => (cond y9 (((m_law_chance v_law_mode v_law_state1)).bind fun y8 => R.ok (decide (v_law_number1 < y8))) (R.ok false)))).bind fun y10 => cond y10 ((appR v_law_row2 v_law_state1).bind fun v_law_row4 =>
(R.ok v_law_row4))
((R.ok v_law_row2)))).bind fun s1 =>
let v_law_row3 := s1
(R.ok v_law_row3)
def m_law_rules_s2 (v_law_mode : Int) (v_law_states_here1 : (List (List Nat))) (v_law_numbers_here1 : (List Int)) (v_law_place4 : (List ((List Nat) × Int))) (t3 : (List (List (List Nat)))) (x2 : Int) : R Er (List (List (List Nat))) :=
let v_law_rules_here2 := t3
let v_law_item1 := x2
let v_law_row1 := ([] : List (List Nat))
(R.foldR (m_law_rules_s3 v_law_mode v_law_states_here1 v_law_numbers_here1 v_law_place4 v_law_item1) v_law_row1 v_law_states_here1).bind fun t5 =>
let v_law_row5 := t5
(appR v_law_rules_here2 v_law_row5).bind fun v_law_rules_here3 =>
(R.ok v_law_rules_here3)
def m_law_rules (v_law_cell_here : Int) (v_law_size : Int) (v_law_mode : Int) : R Er (List (List (List Nat))) :=
  ((m_law_states v_law_size)).bind fun v_law_states_here1 =>
((((mulR v_law_size (v_law_states_here1.length : Int))).bind fun y1 => (m_law_numbers v_law_cell_here y1 (12 : Int)))).bind fun v_law_numbers_here1 =>
let v_law_place1 := ([] : List ((List Nat) × Int))
((rngR (v_law_states_here1.length : Int))).bind fun y12 =>
(R.foldR (m_law_rules_s1 v_law_states_here1) v_law_place1 y12).bind fun t2 =>
let v_law_place4 := t2
let v_law_rules_here1 := ([] : List (List (List Nat)))
((rngR v_law_size)).bind fun y11 =>
(R.foldR (m_law_rules_s2 v_law_mode v_law_states_here1 v_law_numbers_here1 v_law_place4) v_law_rules_here1 y11).bind fun t6 =>
let v_law_rules_here4 := t6
(R.ok v_law_rules_here4)
def m_law_thin_s3 (v_law_size : Int) (v_law_item1 : Int) (v_law_one1 : Int) (t3 : ((List Int) × (List (List Nat)))) (x3 : Int) : R Er ((List Int) × (List (List Nat))) :=
let v_law_numbers_here7 := t3.1
let v_law_row5 := t3.2
let v_law_two1 := x3
((cond (cond (!decide (v_law_one1 = v_law_item1)) (!decide (v_law_two1 = v_law_item1)) false) (((((rngR v_law_size)).bind fun y5 => (R.mapR (fun _ => (R.ok true : R Er Bool)) (fun x4 => ((R.ok ([46] : List Nat)) : R Er (List Nat))) y5))).bind fun v_law_signs1 =>
(R.iff (0 ≤ v_law_two1 ∧ v_law_two1 < v_law_signs1.length) (.ok (v_law_signs1.set (v_law_two1).toNat ([114] : List Nat)))).bind fun v_law_signs2 =>
(R.iff (0 ≤ v_law_one1 ∧ v_law_one1 < v_law_signs2.length) (.ok (v_law_signs2.set (v_law_one1).toNat ([104] : List Nat)))).bind fun v_law_signs3 =>
((((((popR v_law_numbers_here7 : R (Er × (List Int)) ((List Int) × Int))).bind fun s5 =>
let v_law_numbers_here9 := s5.1
((((mulR (2 : Int) (cond (decide (v_law_one1 = v_law_two1)) (1 : Int) 0))).bind fun y6 => R.ok ((2 : Int) + y6))).thn (fun e => (e, s5.1)) fun y7 => R.ok (s5, decide (s5.2 < y7)))).thn (fun y => y.1) fun s6 =>
let v_law_numbers_here10 := s6.1.1
cond s6.2 (((joinR ([] : List Nat) v_law_signs3)).bind fun y8 =>
(appR v_law_row5 y8).bind fun v_law_row8 =>
(R.ok (v_law_numbers_here10, v_law_row8)))
((R.ok (v_law_numbers_here10, v_law_row5))))).bind fun s7 =>
let v_law_numbers_here11 := s7.1
let v_law_row7 := s7.2
(R.ok (v_law_numbers_here11, v_law_row7)))
((R.ok (v_law_numbers_here7, v_law_row5))))).bind fun s4 =>
let v_law_numbers_here8 := s4.1
let v_law_row6 := s4.2
(R.ok (v_law_numbers_here8, v_law_row6))
def m_law_thin_s2 (v_law_size : Int) (v_law_item1 : Int) (t2 : ((List Int) × (List (List Nat)))) (x2 : Int) : R Er ((List Int) × (List (List Nat))) :=
let v_law_numbers_here6 := t2.1
let v_law_row4 := t2.2
let v_law_one1 := x2
((rngR v_law_size)).bind fun y9 =>
(R.foldR (m_law_thin_s3 v_law_size v_law_item1 v_law_one1) (v_law_numbers_here6, v_law_row4) y9).bind fun t4 =>
let v_law_numbers_here12 := t4.1
let v_law_row9 := t4.2
(R.ok (v_law_numbers_here12, v_law_row9))
def m_law_thin_s1 (v_law_size : Int) (t1 : ((List Int) × (List (List (List Nat))))) (x1 : Int) : R Er ((List Int) × (List (List (List Nat)))) :=
let v_law_numbers_here2 := t1.1
let v_law_rules_here2 := t1.2
let v_law_item1 := x1
let v_law_row1 := ([] : List (List Nat))
((((((popR v_law_numbers_here2 : R (Er × (List Int)) ((List Int) × Int))).bind fun s1 =>
let v_law_numbers_here3 := s1.1
R.ok (s1, decide (s1.2 < (10 : Int))))).thn (fun y => y.1) fun s2 =>
let v_law_numbers_here4 := s2.1.1
cond s2.2 (((repR ([46] : List Nat) v_law_size)).bind fun y4 =>
(appR v_law_row1 y4).bind fun v_law_row3 =>
(R.ok (v_law_numbers_here4, v_law_row3)))
((R.ok (v_law_numbers_here4, v_law_row1))))).bind fun s3 =>
let v_law_numbers_here5 := s3.1
let v_law_row2 := s3.2
((rngR v_law_size)).bind fun y12 =>
(R.foldR (m_law_thin_s2 v_law_size v_law_item1) (v_law_numbers_here5, v_law_row2) y12).bind fun t5 =>
let v_law_numbers_here13 := t5.1
let v_law_row10 := t5.2
((((R.mapR (fun _ => (R.ok true : R Er Bool)) (fun x5 => ((R.ok x5) : R Er (List Nat))) v_law_row10)).bind fun y10 => (sortTR y10))).bind fun y11 =>
(appR v_law_rules_here2 y11).bind fun v_law_rules_here3 =>
(R.ok (v_law_numbers_here13, v_law_rules_here3))
def m_law_thin (v_law_cell_here : Int) (v_law_size : Int) : R Er (List (List (List Nat))) :=
  ((((((((mulR (v_law_size - (1 : Int)) (v_law_size - (1 : Int)))).bind fun y1 => R.ok (y1 + (1 : Int)))).bind fun y2 => (mulR v_law_size y2))).bind fun y3 => (m_law_numbers v_law_cell_here y3 (12 : Int)))).bind fun v_law_numbers_here1 =>
let v_law_rules_here1 := ([] : List (List (List Nat)))
((rngR v_law_size)).bind fun y13 =>
(R.foldR (m_law_thin_s1 v_law_size) (v_law_numbers_here1, v_law_rules_here1) y13).bind fun t6 =>
let v_law_numbers_here14 := t6.1
let v_law_rules_here4 := t6.2
(R.ok v_law_rules_here4)
def m_law_some (v_law_cell_here : Int) (v_law_size : Int) (v_law_mode : Int) : R Er (List (List (List Nat))) :=
  (((cond (decide ((4 : Int) < v_law_size)) (((powR (10 : Int) (18 : Int))).bind fun y1 => R.ok (decide (v_law_cell_here < y1))) (R.ok false))).bind fun y2 => cond y2 ((m_law_thin v_law_cell_here v_law_size))
((m_law_rules v_law_cell_here v_law_size v_law_mode)))
def m_law_shuffled_s1 (t1 : ((List (Int × (List Nat))) × (List (Int × (List Nat))))) (x1 : Int) : R Er ((List (Int × (List Nat))) × (List (Int × (List Nat)))) :=
let v_law_rows2 := t1.1
let v_law_left2 := t1.2
let v_law_number1 := x1
((cond (!decide (v_law_left2 = ([] : List (Int × (List Nat))))) (((((modR v_law_number1 (v_law_left2.length : Int))).thn (fun y => (y, v_law_left2)) fun j => (popAtR v_law_left2 j : R (Er × (List (Int × (List Nat)))) ((List (Int × (List Nat))) × (Int × (List Nat)))))).thn (fun y => y.1) fun s2 =>
let v_law_left4 := s2.1
(appR v_law_rows2 s2.2).bind fun v_law_rows4 =>
(R.ok (v_law_rows4, v_law_left4)))
((R.ok (v_law_rows2, v_law_left2))))).bind fun s1 =>
let v_law_rows3 := s1.1
let v_law_left3 := s1.2
(R.ok (v_law_rows3, v_law_left3))
def m_law_shuffled (v_law_row : (List (Int × (List Nat)))) (v_law_numbers_here : (List Int)) : R Er (List (Int × (List Nat))) :=
  let v_law_left1 := v_law_row
let v_law_rows1 := ([] : List (Int × (List Nat)))
(R.foldR (m_law_shuffled_s1) (v_law_rows1, v_law_left1) v_law_numbers_here).bind fun t2 =>
let v_law_rows5 := t2.1
let v_law_left5 := t2.2
(catLR v_law_rows5 v_law_left5)
def m_law_entries_s2 (v_law_item1 : Int) (t2 : (List (Int × (List Nat)))) (x2 : (List Nat)) : R Er (List (Int × (List Nat))) :=
let v_law_rows3 := t2
let v_law_state1 := x2
(appR v_law_rows3 (v_law_item1, v_law_state1)).bind fun v_law_rows4 =>
(R.ok v_law_rows4)
def m_law_entries_s1 (v_law_rules_here : (List (List (List Nat)))) (t1 : (List (Int × (List Nat)))) (x1 : Int) : R Er (List (Int × (List Nat))) :=
let v_law_rows2 := t1
let v_law_item1 := x1
((ixR v_law_rules_here v_law_item1)).bind fun y1 =>
(R.foldR (m_law_entries_s2 v_law_item1) v_law_rows2 y1).bind fun t3 =>
let v_law_rows5 := t3
(R.ok v_law_rows5)
def m_law_entries (v_law_rules_here : (List (List (List Nat)))) : R Er (List (Int × (List Nat))) :=
  let v_law_rows1 := ([] : List (Int × (List Nat)))
((rngR (v_law_rules_here.length : Int))).bind fun y2 =>
(R.foldR (m_law_entries_s1 v_law_rules_here) v_law_rows1 y2).bind fun t4 =>
let v_law_rows6 := t4
(R.ok v_law_rows6)
def m_law_bad_state (v_law_size : Int) (v_law_item : Int) (v_law_numbers_here : (List Int)) : R Er (List Nat) :=
  ((((R.mapR (fun _ => (R.ok true : R Er Bool)) (fun x1 => ((((modR x1 (3 : Int))).bind fun y1 => (ixTR ([46, 104, 114] : List Nat) y1)) : R Er (List Nat))) (cutL v_law_numbers_here (none : Option Int) (some v_law_size)))).bind fun y2 => (joinR ([] : List Nat) y2))).bind fun v_law_state1 =>
((((catR (cutL v_law_state1 (none : Option Int) (some v_law_item)) ([46] : List Nat))).bind fun y3 => (catR y3 (cutL v_law_state1 (some (v_law_item + (1 : Int))) (none : Option Int))))).bind fun v_law_state2 =>
((((ixR v_law_numbers_here v_law_size)).bind fun y4 => (modR y4 (6 : Int)))).bind fun v_law_kind1 =>
(cond (decide (v_law_kind1 = (0 : Int))) ((catR v_law_state2 ([46] : List Nat)))
((cond (decide (v_law_kind1 = (1 : Int))) ((R.ok (cutL v_law_state2 (some (1 : Int)) (none : Option Int))))
((cond (decide (v_law_kind1 = (2 : Int))) ((((((((((ixR v_law_numbers_here (v_law_size + (1 : Int)))).bind fun y5 => (modR y5 (2 : Int)))).bind fun y6 => (ixTR ([104, 114] : List Nat) y6))).bind fun y7 => (catR (cutL v_law_state2 (none : Option Int) (some v_law_item)) y7))).bind fun y8 => (catR y8 (cutL v_law_state2 (some (v_law_item + (1 : Int))) (none : Option Int)))))
((cond (decide (v_law_kind1 = (3 : Int))) ((R.ok ([] : List Nat)))
(((((ixR v_law_numbers_here (v_law_size + (1 : Int)))).bind fun y9 => (modR y9 v_law_size))).bind fun v_law_place1 =>
((((ixR v_law_numbers_here (v_law_size + (2 : Int)))).bind fun y10 => (ixTR ([72, 82, 45, 43, 120, 32, 48, 42, 104, 44, 95, 44] : List Nat) y10))).bind fun v_law_sign1 =>
(((((catR (cutL v_law_state2 (none : Option Int) (some v_law_place1)) v_law_sign1)).bind fun y11 => (catR y11 (cutL v_law_state2 (some (v_law_place1 + (1 : Int))) (none : Option Int))))).bind fun y12 => (catR y12 (cutL ([104] : List Nat) (none : Option Int) (some (v_law_kind1 - (4 : Int))))))))))))))
def m_law_told_h1 (er1 : Er) (z1 : Unit) (k : Unit → R (Er × Unit) ((Dt × Unit) ⊕ Unit)) : R (Er × Unit) ((Dt × Unit) ⊕ Unit) :=
(((((((((fldR er1 0)).bind fun y1 => (dIR y1))).bind fun y2 => R.ok (([105, 116, 101, 109] : List Nat), y2))).bind fun y3 => R.ok (Tod.d (rPr rTx rInt) y3))).thn (fun y => (y, ())) fun y => R.ok (.inl (y, ())))
def m_law_told_h2 (er2 : Er) (z1 : Unit) (k : Unit → R (Er × Unit) ((Dt × Unit) ⊕ Unit)) : R (Er × Unit) ((Dt × Unit) ⊕ Unit) :=
(((((((((fldR er2 0)).bind fun y4 => (dTR y4))).bind fun y5 => R.ok (([115, 116, 97, 116, 101] : List Nat), y5))).bind fun y6 => R.ok (Tod.d (rPr rTx rTx) y6))).thn (fun y => (y, ())) fun y => R.ok (.inl (y, ())))
def m_law_told (v_law_size : Int) (v_law_rows : (List (Int × (List Nat)))) : R Er Dt :=
  (let k := fun (s1 : Unit) =>
(((lenR ([] : List Int))).bind fun y7 => R.ok (Tod.d (rTup rInt) y7))
tryR (let k := fun (s : Unit) => (R.ok (.inr s) : R (Er × Unit) ((Dt × Unit) ⊕ Unit))
((mkR (m_Book_init v_law_size v_law_rows))).thn (fun y => (y, ())) fun _ =>
(k ())) (fun b z => R.ok b) k (fun ez => clsR h_BadState ez.1.1 (tryR (m_law_told_h2 ez.1 ez.2 fun s => R.ok (.inr s)) (fun b z => R.ok b) k (fun _ => R.no)) ((fun ez => clsR h_BadItem ez.1.1 (tryR (m_law_told_h1 ez.1 ez.2 fun s => R.ok (.inr s)) (fun b z => R.ok b) k (fun _ => R.no)) ((fun ez => R.er ez.1) ez)) ez)))
def m_law_b1 (v_law_rules_here1 : (List (List (List Nat)))) (v_law_book2 : (List (List ((List Nat) × Bool)))) (t1 : Unit) (x1 : Int) (k : Unit → R Er Bool) : R Er Bool :=
let v_law_item1 := x1
(((((((m_Book_getitem v_law_book2 v_law_item1)).bind fun y16 => ((ixR v_law_rules_here1 v_law_item1)).bind fun y17 => R.ok (decide (y16 = y17)))).bind fun y18 => R.ok (!y18))).bind fun y19 => cond y19 ((R.ok false))
((k ())))
def m_law (v_law_script : (List Int)) : R Er Bool :=
  ((((m_law_cell v_law_script (0 : Int))).bind fun y1 => (m_law_numbers y1 (8 : Int) (12 : Int)))).bind fun v_law_plan1 =>
((((lenR ([(1 : Int), (2 : Int), (3 : Int), (4 : Int), (2 : Int), (3 : Int), (4 : Int), (3 : Int), (6 : Int), (3 : Int), (3 : Int), (5 : Int)] : List Int))).bind fun y2 => ((ixR v_law_plan1 (0 : Int))).bind fun y3 => (ixR y2 y3))).bind fun v_law_size1 =>
((((m_law_cell v_law_script (1 : Int))).bind fun y5 => ((((ixR v_law_plan1 (1 : Int))).bind fun y4 => (modR y4 (5 : Int)))).bind fun y6 => (m_law_some y5 v_law_size1 y6))).bind fun v_law_rules_here1 =>
((((m_law_cell v_law_script (2 : Int))).bind fun y7 => (m_law_numbers y7 (90 : Int) (60 : Int)))).bind fun v_law_numbers_here1 =>
((m_law_entries v_law_rules_here1)).bind fun v_law_due1 =>
((((((((((ixR v_law_plan1 (2 : Int))).bind fun y8 => R.ok (some y8))).bind fun y9 => R.ok (cutL v_law_due1 (none : Option Int) y9))).bind fun y10 => (catLR v_law_due1 y10))).bind fun y11 => (m_law_shuffled y11 v_law_numbers_here1))).bind fun v_law_rows1 =>
let v_law_given1 := v_law_rows1
((mkR (m_Book_init v_law_size1 v_law_given1))).bind fun v_law_book1 =>
((((((((ixR v_law_plan1 (3 : Int))).bind fun y12 => (modR y12 (2 : Int)))).bind fun y13 => R.ok (decide (y13 = (0 : Int))))).bind fun y57 => cond y57 (((mkR (m_Book_init v_law_size1 v_law_rows1))).bind fun v_law_book3 =>
(R.ok v_law_book3))
((R.ok v_law_book1)))).bind fun s1 =>
let v_law_book2 := s1
(((cond (!decide (v_law_given1 = v_law_rows1)) (R.ok true) (((((m_Book_size v_law_book2).noer).bind fun y14 => R.ok (decide (y14 = v_law_size1)))).bind fun y15 => R.ok (!y15)))).bind fun y56 => cond y56 ((R.ok false))
(let v_law_given2 := ([] : List (Int × (List Nat)))
((m_Book_entries v_law_book2)).bind fun v_law_told_here1 =>
(cond (!(decide (v_law_told_here1 = v_law_due1))) ((R.ok false))
(let v_law_told_here2 := ([] : List (Int × (List Nat)))
((rngR v_law_size1)).bind fun y55 =>
LK.runC (m_law_b1 v_law_rules_here1 v_law_book2) () y55 fun t2 =>
(((((((((mkR (m_Book_init v_law_size1 ([] : List (Int × (List Nat)))))).bind fun y20 => (m_Book_entries y20))).bind fun y21 => R.ok (!decide (y21 = ([] : List (Int × (List Nat))))))).bind fun y24 => (cond y24 (R.ok true) (((((m_Book_entries v_law_book2)).bind fun y22 => R.ok (decide (y22 = v_law_due1)))).bind fun y23 => R.ok (!y23))))).bind fun y54 => cond y54 ((R.ok false))
(((((ixR v_law_plan1 (4 : Int))).bind fun y25 => (modR y25 v_law_size1))).bind fun v_law_item2 =>
((((((((rngR v_law_size1)).bind fun y26 => (R.mapR (fun _ => (R.ok true : R Er Bool)) (fun x2 => ((R.ok (0 : Int)) : R Er Int)) y26))).bind fun y31 => ((((((ixR v_law_plan1 (5 : Int))).bind fun y27 => (modR y27 (4 : Int)))).bind fun y28 => ((ixR v_law_plan1 (6 : Int))).bind fun y29 => ((ixR v_law_plan1 (7 : Int))).bind fun y30 => (lenR ([y28, y29, y30] : List Int)))).bind fun y32 => (catLR y31 y32))).bind fun y33 => (m_law_bad_state v_law_size1 v_law_item2 y33))).bind fun v_law_bad1 =>
((((ixR v_law_plan1 (7 : Int))).bind fun y34 => (modR y34 ((v_law_rows1.length : Int) + (1 : Int))))).bind fun v_law_place1 =>
((((((((lenR ([(v_law_item2, v_law_bad1)] : List (Int × (List Nat))))).bind fun y35 => (catLR (cutL v_law_rows1 (none : Option Int) (some v_law_place1)) y35))).bind fun y36 => (catLR y36 (cutL v_law_rows1 (some v_law_place1) (none : Option Int))))).bind fun y39 => ((((((catR v_law_bad1 ([63] : List Nat))).bind fun y37 => R.ok (v_law_item2, y37))).bind fun y38 => (lenR ([y38] : List (Int × (List Nat)))))).bind fun y40 => (catLR y39 y40))).bind fun v_law_rows2 =>
(((((((m_law_told v_law_size1 v_law_rows2)).bind fun y41 => (sameR 4 y41 (Tod.d (rPr rTx rTx) (([115, 116, 97, 116, 101] : List Nat), v_law_bad1))))).bind fun y42 => R.ok (!y42))).bind fun y53 => cond y53 ((R.ok false))
((((((((((((((ixR v_law_plan1 (6 : Int))).bind fun y43 => R.ok (v_law_size1 + y43))).bind fun y44 => R.ok (y44, v_law_bad1))).bind fun y45 => (lenR ([y45] : List (Int × (List Nat)))))).bind fun y46 => (catLR v_law_rows2 y46))).bind fun y47 => (m_law_told v_law_size1 y47))).bind fun y51 => ((((((((ixR v_law_plan1 (6 : Int))).bind fun y48 => R.ok (v_law_size1 + y48))).bind fun y49 => R.ok (([105, 116, 101, 109] : List Nat), y49))).bind fun y50 => R.ok (Tod.d (rPr rTx rInt) y50))).bind fun y52 => (sameR 4 y51 y52))))))))))
end Zk08
namespace Zk08
open PySem L2 LK LKX LKB LJ PL PyProof.Rows PySem.Spec
theorem start_ok {n : Nat} (h1 : 1 ≤ n) (h6 : n ≤ 6) : m_start (n : Int) = .ok (List.replicate n 46) := by
  have : n = 1 ∨ n = 2 ∨ n = 3 ∨ n = 4 ∨ n = 5 ∨ n = 6 := by omega
  rcases this with rfl | rfl | rfl | rfl | rfl | rfl <;> rfl
def okAll (n : Nat) : Bool := match m_all_states (n : Int) with
  | .ok a => decide (a = sts n)
  | _ => false
theorem okAll_all : ([1, 2, 3, 4, 5, 6] : List Nat).all okAll = true := by decide +kernel
theorem all_states_ok {n : Nat} (h1 : 1 ≤ n) (h6 : n ≤ 6) : m_all_states (n : Int) = .ok (sts n) := by
  have := List.all_eq_true.mp okAll_all n (by simp; omega)
  unfold okAll at this
  split at this
  · rename_i a e
    rw [e, of_decide_eq_true this]
  · cases this
theorem is_state_ok (n : Nat) (s : List Nat) : m_is_state (n : Int) s = .ok (decide (s ∈ sts n)) := by
  unfold m_is_state
  by_cases hl : s.length = n
  · have h1 : decide ((s.length : Int) = (n : Int)) = true := decide_eq_true (by omega)
    rw [h1, cond_true]
    have e : (R.mapR (fun _ => (R.ok true : R Er Bool)) (fun x1 => ((inTR x1 ([46, 104, 114] : List Nat)) : R Er Bool)) (s.map fun c => [c]) : R Er (List Bool)) = .ok (s.map fun c => decide (c ∈ ([46, 104, 114] : List Nat))) := by
      rw [R.mapR_all (fun x : List Nat => decide (x.headD 0 ∈ ([46, 104, 114] : List Nat))) _ (fun x hx => by
        obtain ⟨c, _, rfl⟩ := List.mem_map.mp hx
        rfl), List.map_map]
      rfl
    rw [e]
    show R.ok _ = R.ok _
    congr 1
    rw [Bool.eq_iff_iff, decide_eq_true_iff, mem_sts, List.all_map, List.all_eq_true]
    constructor
    · intro h
      refine ⟨hl, fun c hc => ?_⟩
      have := of_decide_eq_true (h c hc)
      simpa using this
    · rintro ⟨_, h⟩ c hc
      exact decide_eq_true (by simpa using h c hc)
  · have h1 : decide ((s.length : Int) = (n : Int)) = false := decide_eq_false (by omega)
    rw [h1, cond_false]
    congr 1
    exact (decide_eq_false fun h => hl (mem_sts.mp h).1).symm
theorem check_item_ok {n i : Nat} (h : i < n) : m_check_item (n : Int) (i : Int) = .ok () := by
  unfold m_check_item
  rw [decide_eq_false (by omega : ¬ (i : Int) < 0), decide_eq_false (by omega : ¬ (n : Int) ≤ i)]
  rfl
theorem check_item_bad {n : Nat} {i : Int} (h : i < 0 ∨ (n : Int) ≤ i) : m_check_item (n : Int) i = .er (5, [.int i]) := by
  unfold m_check_item
  have : cond (decide (i < 0)) true (decide ((n : Int) ≤ i)) = true := by
    rcases h with h | h
    · rw [decide_eq_true h]; rfl
    · rw [decide_eq_true h]; cases decide (i < 0) <;> rfl
  rw [this]; rfl
theorem check_entry_ok {n i : Nat} (hi : i < n) (s : List Nat) : m_check_entry (n : Int) (i : Int) s = if goodE n i s = true then .ok () else .er (6, [.tx s]) := by
  unfold m_check_entry goodE
  simp only [is_state_ok, R.ok_bind]
  by_cases hs : s ∈ sts n
  · have hl : i < s.length := by rw [(mem_sts.mp hs).1]; exact hi
    simp only [decide_eq_true hs, Bool.not_true, cond_false, ixTR_nat hl, R.ok_bind, Bool.true_and]
    have e : s[i]? = some s[i] := List.getElem?_eq_getElem hl
    by_cases h : s[i] = 46
    · rw [e, h]; rfl
    · have h1 : ¬ ([s[i]] : List Nat) = [46] := fun z => h (by simpa using z)
      have h2 : ¬ s[i]? = some 46 := fun z => h (by rw [e] at z; exact Option.some.inj z)
      rw [decide_eq_false h1, decide_eq_false h2]; rfl
  · rw [decide_eq_false hs]; rfl
theorem getitem_ok {n i : Nat} {d : List (List (List Nat × Bool))} {r : List (List (List Nat))} (hb : BookIs d r) (hr : RulesOk n r) (h1 : 1 ≤ n) (h6 : n ≤ 6) (hi : i < n) : m_Book_getitem d (i : Int) = .ok (at_ r i) := by
  have hl : d.length = n := hb.len.trans hr.len
  unfold m_Book_getitem
  rw [hl, check_item_ok hi]
  simp only [R.ok_bind, ixR_at (show i < d.length by omega), all_states_ok h1 h6]
  rw [R.mapR_flt (fun s => memD s (at_ r i)) _ (fun s _ => by rw [hb.keys i (by rw [hr.len]; exact hi)]) (fun _ _ _ => rfl), hr.flt i hi]
theorem cell_ok (ns : List Int) {k : Int} (h : 0 ≤ k) : ∃ c, m_law_cell ns k = .ok c := by
  unfold m_law_cell
  by_cases hk : k < (ns.length : Int)
  · simp only [hk, decide_true, cond_true]
    exact ⟨_, ixR_ok ⟨by omega, hk⟩⟩
  · simp only [hk, decide_false, cond_false]
    exact ⟨_, rfl⟩
theorem numbers_step (l : Int) (hl : 0 < l ∧ l < 1073741824) (s : Int × List Int × Int) (x : Int) (hs : s.2.1.length < 16777216) : ∃ a y b, 0 ≤ y ∧ y < l ∧ m_law_numbers_s1 l s x = .ok (a, s.2.1 ++ [y], b) := by
  obtain ⟨m, row, left⟩ := s
  have e1 : ∀ a : Int, 0 ≤ a % l ∧ a % l < l := fun a => ⟨Int.emod_nonneg _ (by omega), Int.emod_lt_of_pos _ hl.1⟩
  unfold m_law_numbers_s1
  simp only [mulR_r (x := m) (y := 48271) (by decide), mulR_l (x := 10007) (y := x) (by decide), modR_ok (y := 2147483647) (by decide), R.ok_bind, modR_ok hl.1, divR_ok hl, divR_ok (y := 1021) (by decide), appR_ok (show row.length < 16777216 from hs)]
  by_cases h : 0 < left
  · simp only [h, decide_true, cond_true, R.ok_bind]
    exact ⟨_, _, _, (e1 _).1, (e1 _).2, rfl⟩
  · simp only [h, decide_false, cond_false, R.ok_bind]
    exact ⟨_, _, _, (e1 _).1, (e1 _).2, rfl⟩
theorem numbers_ok (c : Int) {n l : Int} (h0 : 0 ≤ n) (hn : n ≤ 10000) (hl : 0 < l ∧ l < 1073741824) : ∃ row, m_law_numbers c n l = .ok row ∧ row.length = n.toNat ∧ ∀ y ∈ row, 0 ≤ y ∧ y < l := by
  have e : powR 10 18 = .ok ((10 : Int) ^ (18 : Int).toNat) := R.iff_of ⟨by decide, by decide, by decide⟩ _
  unfold m_law_numbers
  obtain ⟨s1, h1⟩ : ∃ s1, (cond (decide ((10 : Int) ^ (18 : Int).toNat ≤ c)) (R.ok (c - (10 : Int) ^ (18 : Int).toNat)) (R.ok 0) : R Er Int) = .ok s1 := by
    cases decide ((10 : Int) ^ (18 : Int).toNat ≤ c) <;> exact ⟨_, rfl⟩
  simp only [e, R.ok_bind, h1, modR_ok (y := 2147483647) (by decide), rngR_ok (n := n) ⟨by omega, by omega⟩]
  obtain ⟨s', e2, p⟩ := R.foldR_inv (m_law_numbers_s1 l) (fun k s => s.2.1.length = k ∧ ∀ y ∈ s.2.1, 0 ≤ y ∧ y < l) (rng n) 0 (c % 2147483647, [], s1) ⟨rfl, fun _ z => nomatch z⟩ (fun j s x hx hp => by
    have hj : j < (rng n).length := (List.getElem?_eq_some_iff.mp hx).1
    rw [rng_len] at hj
    obtain ⟨a, y, b, y0, y1, e⟩ := numbers_step l hl s x (by rw [hp.1]; omega)
    refine ⟨_, e, by simp [hp.1], fun z hz => ?_⟩
    rcases List.mem_append.mp hz with hz | hz
    · exact hp.2 z hz
    · rw [List.mem_singleton.mp hz]; exact ⟨y0, y1⟩)
  rw [rng_len, Nat.zero_add] at p
  exact ⟨s'.2.1, by rw [e2]; rfl, p.1, p.2⟩
def okLs (n : Nat) : Bool := match m_law_states (n : Int) with
  | .ok a => decide (a = sts n)
  | _ => false
theorem okLs_all : ([1, 2, 3, 4, 5, 6] : List Nat).all okLs = true := by decide +kernel
theorem law_states_ok {n : Nat} (h1 : 1 ≤ n) (h6 : n ≤ 6) : m_law_states (n : Int) = .ok (sts n) := by
  have := List.all_eq_true.mp okLs_all n (by simp; omega)
  unfold okLs at this
  split at this
  · rename_i a e
    rw [e, of_decide_eq_true this]
  · cases this
theorem chance_ok (m : Int) (s : List Nat) : ∃ c, m_law_chance m s = .ok c := by
  unfold m_law_chance
  have hc : ∀ c : Nat, cntTR s [c] = .ok ((s.count c : Nat) : Int) := fun _ => rfl
  simp only [hc, R.ok_bind, niTR_1, mulR_l (x := 8) (by decide), lenR_ok (x := [(5 : Int), 3]) (by decide)]
  by_cases h0 : (s.length : Int) - ((s.count 46 : Nat) : Int) = 0
  · rw [decide_eq_true h0]; exact ⟨_, rfl⟩
  rw [decide_eq_false h0, cond_false]
  by_cases h1 : m = 1
  · rw [decide_eq_true h1]; exact ⟨_, rfl⟩
  rw [decide_eq_false h1, cond_false]
  by_cases h2 : m = 2
  · rw [decide_eq_true h2]; exact ⟨_, rfl⟩
  rw [decide_eq_false h2, cond_false]
  have hcount : s.count 46 ≤ s.length := List.count_le_length
  by_cases h3 : m = 3
  · rw [decide_eq_true h3, cond_true]
    by_cases h4 : ((s.count 104 : Nat) : Int) = 1
    · rw [decide_eq_true h4, cond_true]
      simp only [R.ok_bind]
      by_cases h5 : (s.length : Int) - ((s.count 46 : Nat) : Int) < 3
      · rw [decide_eq_true h5, cond_true]
        obtain ⟨a, _, e⟩ := ixR_mem (x := [(5 : Int), 3]) (i := (s.length : Int) - ((s.count 46 : Nat) : Int) - 1) ⟨by omega, by simp; omega⟩
        exact ⟨a, e⟩
      · rw [decide_eq_false h5]; exact ⟨_, rfl⟩
    · rw [decide_eq_false h4]; exact ⟨_, rfl⟩
  · rw [decide_eq_false h3]; exact ⟨_, rfl⟩
theorem key_ok (m : Int) {n : Nat} {s : List Nat} (h6 : n ≤ 6) (hs : s ∈ sts n) : ∃ t, m_law_key m s = .ok t ∧ t ∈ sts n := by
  obtain ⟨hl, hi⟩ := mem_sts.mp hs
  unfold m_law_key
  rw [niTR_1]
  have all : ∀ b : Bool, ∃ t, (cond b (R.ok s : R Er (List Nat)) (R.iff (s.length ≤ 1000000) (cond (decide (104 ∈ s)) (R.ok (replT 114 46 s)) (repR ([114] : List Nat) (s.length : Int))))) = .ok t ∧ t ∈ sts n := fun b => by
    cases b with
    | true => exact ⟨s, rfl, hs⟩
    | false =>
      rw [cond_false, R.iff_of (by omega)]
      by_cases h : 104 ∈ s
      · rw [decide_eq_true h, cond_true]
        refine ⟨_, rfl, mem_sts.mpr ⟨by unfold replT; rw [List.length_map]; exact hl, fun c hc => ?_⟩⟩
        unfold replT at hc
        obtain ⟨d, hd, rfl⟩ := List.mem_map.mp hc
        split
        · exact .inl rfl
        · exact hi d hd
      · rw [decide_eq_false h, cond_false, hl]
        have : n = 0 ∨ n = 1 ∨ n = 2 ∨ n = 3 ∨ n = 4 ∨ n = 5 ∨ n = 6 := by omega
        have e : repR ([114] : List Nat) (n : Int) = .ok (List.replicate n 114) := by
          rcases this with rfl | rfl | rfl | rfl | rfl | rfl | rfl <;> rfl
        exact ⟨_, e, mem_sts.mpr ⟨by simp, fun c hc => .inr (.inr (List.eq_of_mem_replicate hc))⟩⟩
  by_cases h4 : m = 4
  · rw [decide_eq_true h4]
    exact all _
  · rw [decide_eq_false h4]
    exact all true
theorem place_ok {st : List (List Nat)} (hl : st.length ≤ 1000) : ∃ d, R.foldR (m_law_rules_s1 st) ([] : List (List Nat × Int)) ((List.range st.length).map fun (k : Nat) => (k : Int)) = .ok d ∧ ∀ s ∈ st, ∃ k : Nat, k < st.length ∧ getA d s = some (k : Int) := by
  obtain ⟨d, e, h⟩ := R.foldR_inv (m_law_rules_s1 st) (fun j (d : List (List Nat × Int)) => (∀ i, i < j → ∀ s, st[i]? = some s → ∃ k : Nat, k < st.length ∧ getA d s = some (k : Int)) ∧ d.length ≤ j) ((List.range st.length).map fun (k : Nat) => (k : Int)) 0 [] ⟨fun i h => absurd h (by omega), by simp⟩ fun j d x hx hp => by
    obtain ⟨hj, rfl⟩ := rng_at hx
    unfold m_law_rules_s1
    dsimp only
    rw [ixR_nat hj]
    simp only [R.ok_bind]
    have hd := hp.2
    have e1 : (putR d st[j] (j : Int) : R Er (List (List Nat × Int))) = .ok (putA d st[j] (j : Int)) := by
      unfold putR
      exact R.iff_of (by omega) _
    rw [e1]
    refine ⟨_, rfl, fun i hi s hs => ?_, by have := len_putA d st[j] (j : Int); omega⟩
    rw [getA_put]
    by_cases h : st[j] = s
    · rw [if_pos h]; exact ⟨j, hj, rfl⟩
    · rw [if_neg h]
      refine hp.1 i ?_ s hs
      have : i ≠ 0 + j := fun e => by
        subst e
        rw [Nat.zero_add, List.getElem?_eq_getElem hj] at hs
        exact h (Option.some.inj hs)
      omega
  refine ⟨d, e, fun s hs => ?_⟩
  obtain ⟨i, hi⟩ := List.getElem?_of_mem hs
  have hil := (List.getElem?_eq_some_iff.mp hi).1
  exact h.1 i (by simp; omega) s hi
def RIn (n : Nat) (row : List Int) (d : List (List Nat × Int)) : Prop := row.length = n * (sts n).length ∧ ∀ s ∈ sts n, ∃ k : Nat, k < (sts n).length ∧ getA d s = some (k : Int)
theorem rules_s3 {n j : Nat} (h6 : n ≤ 6) (m : Int) {row : List Int} {d : List (List Nat × Int)} (hd : RIn n row d) (hj : j < n) {s : List Nat} (hs : s ∈ sts n) : ∃ b : Bool, (b = true → s[j]? = some 46) ∧ ∀ t : List (List Nat), t.length < 1000000 → m_law_rules_s3 m (sts n) row d (j : Int) t s = .ok (if b = true then t ++ [s] else t) := by
  obtain ⟨k, ek, hk⟩ := key_ok m h6 hs
  obtain ⟨q, hq, eq⟩ := hd.2 k hk
  obtain ⟨ch, ec⟩ := chance_ok m s
  have hsm := sts_small h6
  have hjs : j < s.length := by rw [(mem_sts.mp hs).1]; exact hj
  have hix : j * (sts n).length + q < row.length := by
    rw [hd.1]
    calc j * (sts n).length + q < j * (sts n).length + (sts n).length := by omega
      _ = (j + 1) * (sts n).length := by rw [Nat.add_mul, Nat.one_mul]
      _ ≤ n * (sts n).length := Nat.mul_le_mul_right _ hj
  have e1 : getR d k = .ok (q : Int) := by
    unfold getR
    rw [eq]
  have e0 : mulR (j : Int) ((sts n).length : Int) = .ok ((j : Int) * ((sts n).length : Int)) := mulR_r ⟨by omega, by omega⟩
  have e2 : ixR row ((j : Int) * ((sts n).length : Int) + (q : Int)) = .ok row[j * (sts n).length + q] := by
    rw [← Int.natCast_mul, ← Int.natCast_add, ixR_nat hix]
  refine ⟨decide (s[j] = 46) && decide (row[j * (sts n).length + q] < ch), fun h => ?_, fun t ht => ?_⟩
  · rw [List.getElem?_eq_getElem hjs]
    exact congrArg some (of_decide_eq_true (Bool.and_eq_true_iff.mp h).1)
  · unfold m_law_rules_s3
    simp only [e0, ek, e1, e2, R.ok_bind, ixTR_nat hjs, ec]
    have ap : (appR t s : R Er (List (List Nat))) = .ok (t ++ [s]) := appR_ok (by omega)
    by_cases h3 : s[j] = 46
    · rw [decide_eq_true h3, decide_eq_true (show ([s[j]] : List Nat) = [46] by rw [h3]), cond_true]
      simp only [R.ok_bind]
      by_cases h4 : row[j * (sts n).length + q] < ch
      · rw [decide_eq_true h4]; simp only [cond_true, ap, R.ok_bind]; rfl
      · rw [decide_eq_false h4]; rfl
    · rw [decide_eq_false h3, decide_eq_false (show ¬ ([s[j]] : List Nat) = [46] from fun z => h3 (by simpa using z))]; rfl
theorem fold_flt {ε : Type} {f : List (List Nat) → List Nat → R ε (List (List Nat))} {p : List Nat → Bool} : ∀ (l : List (List Nat)) (t : List (List Nat)), (∀ s ∈ l, ∀ t : List (List Nat), t.length < 1000000 → f t s = .ok (if p s = true then t ++ [s] else t)) → t.length + l.length < 1000000 → R.foldR f t l = .ok (t ++ l.filter p)
  | [], t, _, _ => by simp [R.foldR]
  | s :: l, t, h, hl => by
    rw [List.length_cons] at hl
    show (f t s).bind _ = _
    rw [h s List.mem_cons_self t (by omega)]
    show R.foldR f (if p s = true then t ++ [s] else t) l = _
    by_cases hp : p s = true
    · rw [if_pos hp, fold_flt l _ (fun x hx => h x (List.mem_cons_of_mem _ hx)) (by rw [List.length_append, List.length_singleton]; omega), List.filter_cons_of_pos hp, List.append_assoc]; rfl
    · rw [if_neg hp, fold_flt l _ (fun x hx => h x (List.mem_cons_of_mem _ hx)) (by omega), List.filter_cons_of_neg hp]
theorem rules_s2 {n j : Nat} (h6 : n ≤ 6) (m : Int) {row : List Int} {d : List (List Nat × Int)} (hd : RIn n row d) (hj : j < n) (r : List (List (List Nat))) (hr : r.length = j) : ∃ p : List Nat → Bool, (∀ s, p s = true → s[j]? = some 46) ∧ m_law_rules_s2 m (sts n) row d r (j : Int) = .ok (r ++ [(sts n).filter p]) := by
  have ch : ∃ p : List Nat → Bool, (∀ s, p s = true → s[j]? = some 46) ∧ ∀ s ∈ sts n, ∀ t : List (List Nat), t.length < 1000000 → m_law_rules_s3 m (sts n) row d (j : Int) t s = .ok (if p s = true then t ++ [s] else t) := by
    refine ⟨fun s => if h : s ∈ sts n then (rules_s3 h6 m hd hj h).choose else false, fun s h => ?_, fun s hs t ht => ?_⟩
    · by_cases hs : s ∈ sts n
      · simp only [hs, dif_pos] at h; exact (rules_s3 h6 m hd hj hs).choose_spec.1 h
      · simp only [hs, dif_neg, not_false_iff] at h; cases h
    · simp only [hs, dif_pos]; exact (rules_s3 h6 m hd hj hs).choose_spec.2 t ht
  obtain ⟨p, hp1, hp2⟩ := ch
  have hsm := sts_small h6
  refine ⟨p, hp1, ?_⟩
  unfold m_law_rules_s2
  dsimp only
  rw [fold_flt (p := p) (sts n) [] hp2 (by rw [List.length_nil]; omega)]
  show (appR r _ : R Er _).bind _ = _
  rw [appR_ok (by omega)]
  rfl
theorem rules_fold {n : Nat} (h6 : n ≤ 6) (m : Int) {row : List Int} {d : List (List Nat × Int)} (hd : RIn n row d) : ∃ r, R.foldR (m_law_rules_s2 m (sts n) row d) [] ((List.range n).map fun (k : Nat) => (k : Int)) = .ok r ∧ RulesOk n r := by
  obtain ⟨r, e, h⟩ := R.foldR_inv (m_law_rules_s2 m (sts n) row d) (fun j (r : List (List (List Nat))) => r.length = j ∧ ∀ i, i < j → ∃ p : List Nat → Bool, at_ r i = (sts n).filter p ∧ ∀ s, p s = true → s[i]? = some 46) ((List.range n).map fun (k : Nat) => (k : Int)) 0 [] ⟨rfl, fun i h => absurd h (by omega)⟩ fun j r x hx hp => by
    obtain ⟨hj, rfl⟩ := rng_at hx
    rw [Nat.zero_add] at hp
    obtain ⟨p, hp1, ef⟩ := rules_s2 h6 m hd hj r hp.1
    refine ⟨_, ef, by rw [List.length_append, hp.1, List.length_singleton]; omega, fun i hi => ?_⟩
    by_cases hij : i < j
    · obtain ⟨p', h1, h2⟩ := hp.2 i hij
      exact ⟨p', by rw [at_app_lt (by omega), h1], h2⟩
    · have : i = j := by omega
      subst this
      exact ⟨p, by rw [← hp.1, at_app_eq], hp1⟩
  rw [List.length_map, List.length_range, Nat.zero_add] at h
  refine ⟨r, e, h.1, fun i hi => ?_, fun i hi s hs' => ?_⟩
  · obtain ⟨p, h1, _⟩ := h.2 i hi
    rw [h1]; exact flt_eq
  · obtain ⟨p, h1, h2⟩ := h.2 i hi
    rw [h1] at hs'
    exact h2 s (List.mem_filter.mp hs').2
theorem rules_ok (c m : Int) {n : Nat} (h1 : 1 ≤ n) (h6 : n ≤ 6) : ∃ r, m_law_rules c (n : Int) m = .ok r ∧ RulesOk n r := by
  have hs := sts_small h6
  have hmul : n * (sts n).length ≤ 6 * 729 := Nat.mul_le_mul h6 hs
  obtain ⟨row, er, hr, _⟩ := numbers_ok c (n := ((n * (sts n).length : Nat) : Int)) (l := 12) (by omega) (by omega) (by omega)
  rw [Int.toNat_natCast] at hr
  obtain ⟨d, ed, hd⟩ := place_ok (st := sts n) (by omega)
  obtain ⟨r, e, h⟩ := rules_fold h6 m (row := row) (d := d) ⟨hr, hd⟩
  have e0 : mulR (n : Int) ((sts n).length : Int) = .ok ((n * (sts n).length : Nat) : Int) := by
    rw [Int.natCast_mul]; exact mulR_r ⟨by omega, by omega⟩
  refine ⟨r, ?_, h⟩
  unfold m_law_rules
  have g1 : rngR ((sts n).length : Int) = .ok ((List.range (sts n).length).map fun (k : Nat) => (k : Int)) := rngR_nat (Nat.le_trans hs (by decide))
  have g2 : rngR (n : Int) = .ok ((List.range n).map fun (k : Nat) => (k : Int)) := rngR_nat (Nat.le_trans h6 (by decide))
  rw [law_states_ok h1 h6, R.ok_bind, e0, R.ok_bind, er, R.ok_bind]
  dsimp only
  rw [g1, R.ok_bind, ed, R.ok_bind, g2, R.ok_bind, e]
  rfl
def kk3 (item one two : Nat) : Nat := if one ≠ item ∧ two ≠ item then 1 else 0
theorem pop_ok {α : Type} {ε : Type} {xs : List α} (h : 1 ≤ xs.length) : ∃ ys y, (popR xs : R ε (List α × α)) = .ok (ys, y) ∧ ys.length + 1 = xs.length := by
  unfold popR
  have hl : xs.length - 1 < xs.length := by omega
  rw [List.getElem?_eq_getElem hl]
  exact ⟨_, _, rfl, by rw [List.length_dropLast]; omega⟩
theorem thin_s3 {n item one two : Nat} (h6 : n ≤ 6) (ho : one < n) (ht : two < n) (nums : List Int) (row : List (List Nat)) (hk : kk3 item one two ≤ nums.length) (hb : row.length + nums.length < 1000000) : ∃ nums' z, m_law_thin_s3 (n : Int) (item : Int) (one : Int) (nums, row) (two : Int) = .ok (nums', row ++ z) ∧ z.Sublist (g3 n item one two) ∧ nums'.length + kk3 item one two = nums.length := by
  unfold m_law_thin_s3 kk3 g3 at *
  dsimp only at *
  by_cases hc : one ≠ item ∧ two ≠ item
  · rw [if_pos hc] at hk ⊢
    rw [if_pos hc]
    have e1 : cond (!decide ((one : Int) = (item : Int))) (!decide ((two : Int) = (item : Int))) false = true := by
      rw [decide_eq_false (by omega), decide_eq_false (by omega)]; rfl
    have g2 : rngR (n : Int) = .ok ((List.range n).map fun (k : Nat) => (k : Int)) := rngR_nat (Nat.le_trans h6 (by decide))
    have e2 : (R.mapR (fun _ => (R.ok true : R Er Bool)) (fun x4 => ((R.ok ([46] : List Nat)) : R Er (List Nat))) ((List.range n).map fun (k : Nat) => (k : Int)) : R Er (List (List Nat))) = .ok (List.replicate n [46]) := by
      rw [R.mapR_all (fun _ => [46]) _ (fun _ _ => rfl), List.map_map]
      congr 1
      rw [show ((fun (_ : Int) => ([46] : List Nat)) ∘ fun (k : Nat) => (k : Int)) = fun _ => [46] from rfl, List.map_const', List.length_range]
    rw [e1, cond_true, g2, R.ok_bind, e2, R.ok_bind]
    have i1 : ∀ (l : List (List Nat)) (v : List Nat), l.length = n → (R.iff (0 ≤ (two : Int) ∧ (two : Int) < (l.length : Int)) (.ok (l.set (two : Int).toNat v)) : R Er (List (List Nat))) = .ok (l.set two v) := fun l v hl => R.iff_of ⟨by omega, by omega⟩ _
    have i2 : ∀ (l : List (List Nat)) (v : List Nat), l.length = n → (R.iff (0 ≤ (one : Int) ∧ (one : Int) < (l.length : Int)) (.ok (l.set (one : Int).toNat v)) : R Er (List (List Nat))) = .ok (l.set one v) := fun l v hl => R.iff_of ⟨by omega, by omega⟩ _
    rw [i1 _ _ (by simp), R.ok_bind, i2 _ _ (by simp), R.ok_bind]
    obtain ⟨ys, y, ep, hp⟩ := pop_ok (ε := Er × List Int) hk
    have e3 : (((List.replicate n [46]).set two [114]).set one [104] : List (List Nat)) = (sgl n one two).map fun c => [c] := by
      unfold sgl
      rw [List.map_set, List.map_set, List.map_replicate]
    have e4 : joinR ([] : List Nat) (((List.replicate n [46]).set two [114]).set one [104]) = .ok (sgl n one two) := by
      rw [e3, joinR_ok (by rw [flat1]; unfold sgl; simp; omega), flat1]
    rw [ep]
    simp only [R.ok_bind, R.ok_thn, mulR_l (x := 2) (by decide), e4, appR_ok (show row.length < 16777216 by omega)]
    cases hd : decide (y < 2 + 2 * (cond (decide ((one : Int) = (two : Int))) (1 : Int) 0)) with
    | true => exact ⟨ys, [sgl n one two], rfl, List.Sublist.refl _, hp⟩
    | false => exact ⟨ys, [], by rw [List.append_nil]; rfl, List.nil_sublist _, hp⟩
  · rw [if_neg hc] at hk ⊢
    rw [if_neg hc]
    have e1 : cond (!decide ((one : Int) = (item : Int))) (!decide ((two : Int) = (item : Int))) false = false := by
      by_cases h1 : one = item
      · rw [decide_eq_true (by omega)]; rfl
      · have h2 : two = item := Classical.byContradiction fun h2 => hc ⟨h1, h2⟩
        rw [decide_eq_false (by omega : ¬ (one : Int) = item), decide_eq_true (by omega : (two : Int) = item)]; rfl
    rw [e1]
    exact ⟨nums, [], by rw [List.append_nil]; rfl, List.nil_sublist _, rfl⟩
def kk2 (n item one : Nat) : Nat := ((List.range n).map (kk3 item one)).sum
theorem g3_len (n item one two : Nat) : (g3 n item one two).length ≤ kk3 item one two := by
  unfold g3 kk3
  split <;> simp
theorem flat_len {α β : Type} {g : α → List β} {k : α → Nat} : ∀ (xs : List α), (∀ x ∈ xs, (g x).length ≤ k x) → (xs.flatMap g).length ≤ (xs.map k).sum
  | [], _ => by simp
  | x :: xs, h => by
    rw [List.flatMap_cons, List.length_append, List.map_cons, List.sum_cons]
    have := h x List.mem_cons_self
    have := flat_len xs fun y hy => h y (List.mem_cons_of_mem _ hy)
    omega
theorem thin_s2 {n item one : Nat} (h6 : n ≤ 6) (ho : one < n) (nums : List Int) (row : List (List Nat)) (hk : kk2 n item one ≤ nums.length) (hb : row.length + nums.length < 1000000) : ∃ nums' z, m_law_thin_s2 (n : Int) (item : Int) (nums, row) (one : Int) = .ok (nums', row ++ z) ∧ z.Sublist (g2 n item one) ∧ nums'.length + kk2 n item one = nums.length := by
  have g2' : rngR (n : Int) = .ok ((List.range n).map fun (k : Nat) => (k : Int)) := rngR_nat (Nat.le_trans h6 (by decide))
  have hk' : (((List.range n).map fun (k : Nat) => (k : Int)).map fun i : Int => kk3 item one i.toNat).sum = kk2 n item one := by
    unfold kk2
    rw [List.map_map]; rfl
  have hg' : (((List.range n).map fun (k : Nat) => (k : Int)).flatMap fun i : Int => g3 n item one i.toNat) = g2 n item one := by
    unfold g2
    rw [List.flatMap_map]; rfl
  obtain ⟨n1, z, e, hs, hl⟩ := draw_fold (f := m_law_thin_s3 (n : Int) (item : Int) (one : Int)) (fun i : Int => g3 n item one i.toNat) (fun i : Int => kk3 item one i.toNat) ((List.range n).map fun (k : Nat) => (k : Int)) (fun x hx => by
    obtain ⟨k, hk, rfl⟩ := mem_rng.mp hx
    exact ⟨g3_len _ _ _ _, fun nums row => thin_s3 h6 ho hk nums row⟩) nums row (by rw [hk']; exact hk) hb
  rw [hg'] at hs
  rw [hk'] at hl
  refine ⟨n1, z, ?_, hs, hl⟩
  unfold m_law_thin_s2
  dsimp only
  rw [g2', R.ok_bind, e]; rfl
def kk1 (n item : Nat) : Nat := ((List.range n).map (kk2 n item)).sum
theorem thin_s1 {n item : Nat} (h : n = 5 ∨ n = 6) (hi : item < n) (nums : List Int) (r : List (List (List Nat))) (hk : 1 + kk1 n item ≤ nums.length) (hb : r.length + nums.length < 1000) : ∃ nums' x, m_law_thin_s1 (n : Int) (nums, r) (item : Int) = .ok (nums', r ++ [x]) ∧ nums'.length + (1 + kk1 n item) = nums.length ∧ (sts n).filter (fun s => memD s x) = x ∧ ∀ s ∈ x, s[item]? = some 46 := by
  have h6 : n ≤ 6 := by omega
  have g2' : rngR (n : Int) = .ok ((List.range n).map fun (k : Nat) => (k : Int)) := rngR_nat (Nat.le_trans h6 (by decide))
  obtain ⟨ys, y, ep, hp⟩ := pop_ok (ε := Er × List Int) (xs := nums) (by omega)
  have er : repR ([46] : List Nat) (n : Int) = .ok (List.replicate n 46) := by rcases h with rfl | rfl <;> rfl
  have hk' : (((List.range n).map fun (k : Nat) => (k : Int)).map fun i : Int => kk2 n item i.toNat).sum = kk1 n item := by
    unfold kk1
    rw [List.map_map]; rfl
  have hg' : (((List.range n).map fun (k : Nat) => (k : Int)).flatMap fun i : Int => g2 n item i.toNat) = (List.range n).flatMap (g2 n item) := by
    rw [List.flatMap_map]; rfl
  have fold : ∀ row : List (List Nat), row.length ≤ 1 → ∃ nums' z, R.foldR (m_law_thin_s2 (n : Int) (item : Int)) (ys, row) ((List.range n).map fun (k : Nat) => (k : Int)) = .ok (nums', row ++ z) ∧ z.Sublist ((List.range n).flatMap (g2 n item)) ∧ nums'.length + kk1 n item = ys.length := fun row hrow => by
    obtain ⟨n1, z, e, hs, hl⟩ := draw_fold (f := m_law_thin_s2 (n : Int) (item : Int)) (fun i : Int => g2 n item i.toNat) (fun i : Int => kk2 n item i.toNat) ((List.range n).map fun (k : Nat) => (k : Int)) (fun x hx => by
      obtain ⟨k, hk, rfl⟩ := mem_rng.mp hx
      exact ⟨flat_len _ fun y _ => g3_len _ _ _ _, fun nums row => thin_s2 h6 hk nums row⟩) ys row (by rw [hk']; omega) (by omega)
    rw [hg'] at hs
    rw [hk'] at hl
    exact ⟨n1, z, e, hs, hl⟩
  obtain ⟨nd, hgood⟩ := g1_of h hi
  have glen : (g1 n item).length ≤ 40 := by
    have : ([5, 6] : List Nat).all (fun n => (List.range n).all fun i => decide ((g1 n i).length ≤ 40)) = true := by decide +kernel
    exact of_decide_eq_true (List.all_eq_true.mp (List.all_eq_true.mp this n (by rcases h with rfl | rfl <;> simp)) item (List.mem_range.mpr hi))
  -- what is sorted
  have fin : ∀ w : List (List Nat), w.Sublist (g1 n item) → sortTR w = .ok (sortT w) ∧ (sts n).filter (fun s => memD s (sortT w)) = sortT w ∧ ∀ s ∈ sortT w, s[item]? = some 46 := fun w hw => by
    have e := sort_flt (nd.sublist hw) fun s hs => (hgood s (hw.subset hs)).1
    refine ⟨R.iff_of (by have := hw.length_le; omega) _, by rw [e]; exact flt_eq, fun s hs => ?_⟩
    rw [e, List.mem_filter, memD_iff] at hs
    exact (hgood s (hw.subset hs.2)).2
  have mp : ∀ w : List (List Nat), (R.mapR (fun _ => (R.ok true : R Er Bool)) (fun x5 => ((R.ok x5) : R Er (List Nat))) w : R Er (List (List Nat))) = .ok w := fun w => by
    exact (R.mapR_all id w (fun _ _ => rfl)).trans (by rw [List.map_id])
  have tail : ∀ (row : List (List Nat)), row.Sublist [List.replicate n 46] → ∃ nums' x, ((R.foldR (m_law_thin_s2 (n : Int) (item : Int)) (ys, row) ((List.range n).map fun (k : Nat) => (k : Int))).bind fun t5 =>
      ((R.mapR (fun _ => (R.ok true : R Er Bool)) (fun x5 => ((R.ok x5) : R Er (List Nat))) t5.2).bind fun y10 => sortTR y10).bind fun y11 => (appR r y11).bind fun v => (R.ok (t5.1, v) : R Er (List Int × List (List (List Nat))))) = .ok (nums', r ++ [x]) ∧ nums'.length + (1 + kk1 n item) = nums.length ∧ (sts n).filter (fun s => memD s x) = x ∧ ∀ s ∈ x, s[item]? = some 46 := fun row hrow => by
    obtain ⟨n1, z, e, hs, hl⟩ := fold row (by have := hrow.length_le; simpa using this)
    have hw : (row ++ z).Sublist (g1 n item) := by unfold g1; exact hrow.append hs
    obtain ⟨f1, f2, f3⟩ := fin _ hw
    refine ⟨n1, sortT (row ++ z), ?_, by omega, f2, f3⟩
    rw [e, R.ok_bind, mp, R.ok_bind, f1, R.ok_bind, appR_ok (by omega)]; rfl
  unfold m_law_thin_s1
  dsimp only
  rw [ep]
  simp only [R.ok_bind, R.ok_thn, er]
  cases hd : decide (y < 10) with
  | true =>
    obtain ⟨n1, x, e, h2⟩ := tail [List.replicate n 46] (List.Sublist.refl _)
    refine ⟨n1, x, ?_, h2⟩
    rw [cond_true, appR_ok (by simp)]
    simp only [R.ok_bind, g2', List.nil_append]
    exact e
  | false =>
    obtain ⟨n1, x, e, h2⟩ := tail [] (List.nil_sublist _)
    refine ⟨n1, x, ?_, h2⟩
    rw [cond_false]
    simp only [R.ok_bind, g2']
    exact e
theorem kk_all : ([5, 6] : List Nat).all (fun n => (List.range n).all fun i => decide (1 + kk1 n i = (n - 1) * (n - 1) + 1)) = true := by decide +kernel
theorem thin_ok (c : Int) {n : Nat} (h : n = 5 ∨ n = 6) : ∃ r, m_law_thin c (n : Int) = .ok r ∧ RulesOk n r := by
  obtain ⟨row, er, hr, _⟩ := numbers_ok c (n := ((n * ((n - 1) * (n - 1) + 1) : Nat) : Int)) (l := 12) (by omega) (by rcases h with rfl | rfl <;> decide) (by omega)
  rw [Int.toNat_natCast] at hr
  have h6 : n ≤ 6 := by omega
  have g2' : rngR (n : Int) = .ok ((List.range n).map fun (k : Nat) => (k : Int)) := rngR_nat (Nat.le_trans h6 (by decide))
  have em : ((mulR ((n : Int) - 1) ((n : Int) - 1)).bind fun y1 => R.ok (y1 + (1 : Int))).bind (fun y2 => mulR (n : Int) y2) = .ok ((n * ((n - 1) * (n - 1) + 1) : Nat) : Int) := by rcases h with rfl | rfl <;> rfl
  have hkk : ∀ i, i < n → 1 + kk1 n i = (n - 1) * (n - 1) + 1 := fun i hi => of_decide_eq_true (List.all_eq_true.mp (List.all_eq_true.mp kk_all n (by rcases h with rfl | rfl <;> simp)) i (List.mem_range.mpr hi))
  have hrs : row.length ≤ 200 := by rw [hr]; rcases h with rfl | rfl <;> decide
  obtain ⟨s, e, hp⟩ := R.foldR_inv (m_law_thin_s1 (n : Int)) (fun j (s : List Int × List (List (List Nat))) => s.2.length = j ∧ s.1.length = (n - j) * ((n - 1) * (n - 1) + 1) ∧ j ≤ n ∧ ∀ i, i < j → (sts n).filter (fun s' => memD s' (at_ s.2 i)) = at_ s.2 i ∧ ∀ t ∈ at_ s.2 i, t[i]? = some 46) ((List.range n).map fun (k : Nat) => (k : Int)) 0 (row, []) ⟨rfl, by rw [Nat.sub_zero]; exact hr, Nat.zero_le _, fun i h => absurd h (by omega)⟩ fun j s x hx hp => by
    obtain ⟨hj, rfl⟩ := rng_at hx
    rw [Nat.zero_add] at hp
    obtain ⟨nums, r⟩ := s
    obtain ⟨h1, h2, h3, h4⟩ := hp
    have hsplit : n - j = (n - (j + 1)) + 1 := by omega
    have hnl : nums.length = (n - (j + 1)) * ((n - 1) * (n - 1) + 1) + ((n - 1) * (n - 1) + 1) := by
      have h2' : nums.length = (n - j) * ((n - 1) * (n - 1) + 1) := h2
      rw [h2', hsplit, Nat.add_mul, Nat.one_mul]
    have hns : nums.length ≤ 200 := by
      have h2' : nums.length = (n - j) * ((n - 1) * (n - 1) + 1) := h2
      rw [h2']
      exact Nat.le_trans (Nat.mul_le_mul_right _ (Nat.sub_le n j)) (by rw [← hr]; exact hrs)
    have h1' : r.length = j := h1
    obtain ⟨n1, x, e, hl, hx1, hx2⟩ := thin_s1 h hj nums r (by rw [hkk j hj]; omega) (by omega)
    rw [hkk j hj] at hl
    refine ⟨_, e, by rw [List.length_append, h1', List.length_singleton]; omega, ?_, by omega, fun i hi => ?_⟩
    · show n1.length = (n - (0 + j + 1)) * _
      rw [Nat.zero_add]
      omega
    · show (sts n).filter (fun s' => memD s' (at_ (r ++ [x]) i)) = at_ (r ++ [x]) i ∧ ∀ t ∈ at_ (r ++ [x]) i, t[i]? = some 46
      by_cases hij : i < j
      · rw [at_app_lt (by omega)]; exact h4 i hij
      · have : i = j := by omega
        subst this
        subst h1'
        rw [at_app_eq]; exact ⟨hx1, hx2⟩
  rw [List.length_map, List.length_range, Nat.zero_add] at hp
  refine ⟨s.2, ?_, hp.1, fun i hi => (hp.2.2.2 i hi).1, fun i hi => (hp.2.2.2 i hi).2⟩
  unfold m_law_thin
  rw [em, R.ok_bind, er, R.ok_bind]
  dsimp only
  rw [g2', R.ok_bind, e]; rfl
theorem some_ok (c m : Int) {n : Nat} (h1 : 1 ≤ n) (h6 : n ≤ 6) : ∃ r, m_law_some c (n : Int) m = .ok r ∧ RulesOk n r := by
  have e : powR 10 18 = .ok ((10 : Int) ^ (18 : Int).toNat) := R.iff_of ⟨by decide, by decide, by decide⟩ _
  unfold m_law_some
  rw [e, R.ok_bind]
  by_cases h4 : (4 : Int) < (n : Int)
  · rw [decide_eq_true h4, cond_true, R.ok_bind]
    cases decide (c < (10 : Int) ^ (18 : Int).toNat) with
    | true => exact thin_ok c (by omega)
    | false => exact rules_ok c m h1 h6
  · rw [decide_eq_false h4, cond_false, R.ok_bind]
    exact rules_ok c m h1 h6
abbrev EN := Int × List Nat
theorem shuffled_ok (l : List EN) (ns : List Int) (hl : l.length ≤ 100000) : ∃ l', m_law_shuffled l ns = .ok l' ∧ l'.Perm l := by
  obtain ⟨s, e, hp⟩ := R.foldR_inv m_law_shuffled_s1 (fun _ (s : List EN × List EN) => (s.1 ++ s.2).Perm l) ns 0 ([], l) (by simp) fun j s x _ hp => by
    obtain ⟨a, b⟩ := s
    have hp : (a ++ b).Perm l := hp
    have hlen := hp.length_eq
    rw [List.length_append] at hlen
    unfold m_law_shuffled_s1
    dsimp only
    by_cases hb : b = []
    · rw [decide_eq_true hb]
      exact ⟨_, rfl, hp⟩
    · rw [decide_eq_false hb, Bool.not_false, cond_true]
      have hpos : 0 < b.length := List.length_pos_iff.mpr hb
      have e1 : modR x (b.length : Int) = .ok (x % (b.length : Int)) := R.iff_of (by omega) _
      have h0 : 0 ≤ x % (b.length : Int) := Int.emod_nonneg _ (by omega)
      have h1 : x % (b.length : Int) < (b.length : Int) := Int.emod_lt_of_pos _ (by omega)
      have h2 : (x % (b.length : Int)).toNat < b.length := by omega
      have e2 : (popAtR b (x % (b.length : Int)) : R (Er × List EN) (List EN × EN)) = .ok (b.eraseIdx (x % (b.length : Int)).toNat, b[(x % (b.length : Int)).toNat]) := by
        unfold popAtR
        rw [R.iff_of h0, List.getElem?_eq_getElem h2]
      rw [e1]
      simp only [R.ok_thn, e2, appR_ok (show a.length < 16777216 by omega), R.ok_bind]
      refine ⟨_, rfl, ?_⟩
      show ((a ++ [b[(x % (b.length : Int)).toNat]]) ++ b.eraseIdx (x % (b.length : Int)).toNat).Perm l
      refine List.Perm.trans ?_ hp
      rw [List.append_assoc]
      exact List.Perm.append_left a (erase_perm b _ h2)
  refine ⟨s.1 ++ s.2, ?_, hp⟩
  unfold m_law_shuffled
  dsimp only
  rw [e, R.ok_bind]
  have := hp.length_eq
  rw [List.length_append] at this
  exact catLR_ok (by omega)
end Zk08
namespace Zk08
open PySem L2 LK LKX LKB LJ PL PyProof.Rows PySem.Spec
theorem foldR_stop {ε α : Type} {f : Unit → α → R ε Unit} {x : α} {y : ε} (hx : f () x = .er y) (b : List α) : ∀ a : List α, (∀ z ∈ a, f () z = .ok ()) → R.foldR f () (a ++ x :: b) = .er y
  | [], _ => by
    show (f () x).bind _ = _
    rw [hx]; rfl
  | z :: a, h => by
    show (f () z).bind _ = _
    rw [h z List.mem_cons_self, R.ok_bind]
    exact foldR_stop hx b a fun w hw => h w (List.mem_cons_of_mem _ hw)
def dAt (rows : List EN) (i : Int) : List (List Nat × Bool) := ofA ((rows.filter fun x => decide (x.1 = i)).map fun x => (x.2, true))
def dOf (n : Nat) (rows : List EN) : List (List (List Nat × Bool)) := ((List.range n).map fun (k : Nat) => (k : Int)).map (dAt rows)
theorem s1_ok {n : Nat} {x : EN} (h : 0 ≤ x.1 ∧ x.1 < (n : Int)) : m_Book_init_s1 (n : Int) () x = .ok () := by
  obtain ⟨i, hi⟩ := Int.eq_ofNat_of_zero_le h.1
  unfold m_Book_init_s1
  dsimp only
  rw [hi, check_item_ok (by omega)]; rfl
theorem s1_bad {n : Nat} {x : EN} (h : (n : Int) ≤ x.1) : m_Book_init_s1 (n : Int) () x = .er ((5, [.int x.1]), ()) := by
  unfold m_Book_init_s1
  dsimp only
  rw [check_item_bad (.inr h)]; rfl
theorem s2_ok {n i : Nat} {x : EN} (hi : i < n) (h : x.1 = (i : Int)) (hg : goodE n i x.2 = true) : m_Book_init_s2 (n : Int) () x = .ok () := by
  unfold m_Book_init_s2
  dsimp only
  rw [h, check_entry_ok hi, if_pos hg]; rfl
theorem s2_bad {n i : Nat} {x : EN} (hi : i < n) (h : x.1 = (i : Int)) (hg : goodE n i x.2 = false) : m_Book_init_s2 (n : Int) () x = .er ((6, [.tx x.2]), ()) := by
  unfold m_Book_init_s2
  dsimp only
  rw [h, check_entry_ok hi, if_neg (by rw [hg]; decide)]; rfl
def Good (n : Nat) (rows : List EN) : Prop := ∀ x ∈ rows, ∃ i : Nat, i < n ∧ x.1 = (i : Int) ∧ goodE n i x.2 = true
theorem init_rows {n : Nat} (h1 : 1 ≤ n) (h6 : n ≤ 6) {rows : List EN} (h : Good n rows) : m_Book_init (n : Int) rows = .ok (dOf n rows) := by
  unfold m_Book_init
  rw [start_ok h1 h6, R.ok_thn]
  dsimp only
  rw [R.foldR_unit (f := m_Book_init_s1 (n : Int)) (fun x hx => by
    obtain ⟨i, hi, e, _⟩ := h x hx
    exact s1_ok (by omega)), R.ok_bind, R.foldR_unit (f := m_Book_init_s2 (n : Int)) (fun x hx => by
    obtain ⟨i, hi, e, hg⟩ := h x hx
    exact s2_ok hi e hg), R.ok_bind, List.length_replicate, rngR_nat (by omega), R.ok_bind, R.mapR_all (dAt rows) _ (fun x hx => by
    refine (congrArg (fun q => q.bind fun dl => R.ok (ofA dl)) (R.mapR_ok (δ := Er) (p := fun x4 : EN => (R.ok (decide (x4.1 = x)) : R Er Bool)) (f := fun x4 : EN => (((R.ok x4.2 : R Er (List Nat)).bind fun dk => (R.ok true : R Er Bool).bind fun dv => R.ok (dk, dv)) : R Er (List Nat × Bool))) (fun y : EN => decide (y.1 = x)) (fun y : EN => (y.2, true)) _ (fun _ _ => rfl) (fun y _ _ => rfl))).trans ?_
    rfl)]
  rfl
theorem init_state {n i : Nat} (h1 : 1 ≤ n) (h6 : n ≤ 6) {a b : List EN} {x : EN} (ha : Good n a) (hb : ∀ y ∈ b, 0 ≤ y.1 ∧ y.1 < (n : Int)) (hi : i < n) (hx : x.1 = (i : Int)) (hg : goodE n i x.2 = false) : m_Book_init (n : Int) (a ++ x :: b) = .er ((6, [.tx x.2]), ()) := by
  unfold m_Book_init
  rw [start_ok h1 h6, R.ok_thn]
  dsimp only
  rw [R.foldR_unit (f := m_Book_init_s1 (n : Int)) (fun y hy => by
    rcases List.mem_append.mp hy with hy | hy
    · obtain ⟨i, hi, e, _⟩ := ha y hy
      exact s1_ok (by omega)
    · rcases List.mem_cons.mp hy with rfl | hy
      · exact s1_ok (by omega)
      · exact s1_ok (hb y hy)), R.ok_bind, foldR_stop (s2_bad hi hx hg) b a fun y hy => by
    obtain ⟨i, hi, e, hg⟩ := ha y hy
    exact s2_ok hi e hg]
  rfl
theorem init_item {n : Nat} (h1 : 1 ≤ n) (h6 : n ≤ 6) {a b : List EN} {x : EN} (ha : ∀ y ∈ a, 0 ≤ y.1 ∧ y.1 < (n : Int)) (hx : (n : Int) ≤ x.1) : m_Book_init (n : Int) (a ++ x :: b) = .er ((5, [.int x.1]), ()) := by
  unfold m_Book_init
  rw [start_ok h1 h6, R.ok_thn]
  dsimp only
  rw [foldR_stop (s1_bad hx) b a fun y hy => s1_ok (ha y hy)]
  rfl
theorem dOf_at {n i : Nat} (h : i < n) (rows : List EN) : at_ (dOf n rows) i = dAt rows (i : Int) := by
  unfold at_ dOf
  rw [List.getD_eq_getElem?_getD, List.getElem?_map, List.getElem?_map, List.getElem?_range h]; rfl
theorem dOf_is {n : Nat} {rows : List EN} {r : List (List (List Nat))} (hr : r.length = n) (h : ∀ (i : Nat) (s : List Nat), i < n → (((i : Int), s) ∈ rows ↔ s ∈ at_ r i)) : BookIs (dOf n rows) r := by
  refine ⟨by unfold dOf; simp [hr], fun i hi s => ?_, fun i => ?_⟩
  · rw [hr] at hi
    rw [dOf_at hi]
    unfold dAt
    rw [getA_of, Bool.eq_iff_iff, memD_iff, memD_iff, ← h i s hi, List.map_map, List.mem_map]
    constructor
    · rintro ⟨x, hx, e⟩
      obtain ⟨x1, x2⟩ := List.mem_filter.mp hx
      have x2 := of_decide_eq_true x2
      have e : x.2 = s := e
      rw [← x2, ← e]; exact x1
    · intro hx
      exact ⟨_, List.mem_filter.mpr ⟨hx, decide_eq_true rfl⟩, rfl⟩
  · by_cases hi : i < n
    · rw [dOf_at hi]; exact ofA_nd _
    · have : at_ (dOf n rows) i = [] := by
        unfold at_
        rw [List.getD_eq_getElem?_getD, List.getElem?_eq_none (by unfold dOf; simp; omega)]; rfl
      rw [this]; exact List.nodup_nil
def ents (r : List (List (List Nat))) (j : Nat) : List EN := (List.range j).flatMap fun i => (at_ r i).map fun s => ((i : Int), s)
theorem ents_succ (r : List (List (List Nat))) (j : Nat) : ents r (j + 1) = ents r j ++ (at_ r j).map fun s => ((j : Int), s) := by
  unfold ents
  rw [List.range_succ, List.flatMap_append, List.flatMap_cons, List.flatMap_nil, List.append_nil]
theorem mem_ents {r : List (List (List Nat))} {n : Nat} {x : EN} : x ∈ ents r n ↔ ∃ i : Nat, i < n ∧ x.1 = (i : Int) ∧ x.2 ∈ at_ r i := by
  unfold ents
  rw [List.mem_flatMap]
  constructor
  · rintro ⟨i, hi, hx⟩
    obtain ⟨s, hs, rfl⟩ := List.mem_map.mp hx
    exact ⟨i, List.mem_range.mp hi, rfl, hs⟩
  · rintro ⟨i, hi, e, hs⟩
    exact ⟨i, List.mem_range.mpr hi, List.mem_map.mpr ⟨_, hs, by rw [← e]⟩⟩
theorem at_small {n : Nat} {r : List (List (List Nat))} (hr : RulesOk n r) (h6 : n ≤ 6) {i : Nat} (hi : i < n) : (at_ r i).length ≤ 729 := by
  have hsm := sts_small h6
  rw [← hr.flt i hi]
  have := List.length_filter_le (fun s => memD s (at_ r i)) (sts n)
  omega
theorem ents_len {n : Nat} {r : List (List (List Nat))} (hr : RulesOk n r) (h6 : n ≤ 6) : ∀ j, j ≤ n → (ents r j).length ≤ 729 * j
  | 0, _ => Nat.le_refl _
  | j + 1, h => by
    have a := ents_len hr h6 j (by omega)
    have b := at_small hr h6 (i := j) (by omega)
    rw [ents_succ, List.length_append, List.length_map]; omega
theorem lents_ok {n : Nat} {r : List (List (List Nat))} (hr : RulesOk n r) (h6 : n ≤ 6) : m_law_entries r = .ok (ents r n) := by
  have two : ∀ (i : Int) (l : List (List Nat)) (zs : List EN), zs.length + l.length ≤ 16000000 → R.foldR (m_law_entries_s2 i) zs l = .ok (zs ++ l.map fun s => (i, s)) := by
    intro i l
    induction l with
    | nil => intro zs _; simp [R.foldR]
    | cons s l ih =>
      intro zs hz
      rw [List.length_cons] at hz
      have e1 : m_law_entries_s2 i zs s = .ok (zs ++ [(i, s)]) := by
        unfold m_law_entries_s2
        dsimp only
        rw [appR_ok (by omega), R.ok_bind]
      show (m_law_entries_s2 i zs s).bind _ = _
      rw [e1, R.ok_bind, ih _ (by simp; omega), List.map_cons, List.append_assoc]; rfl
  obtain ⟨q, e, hq⟩ := R.foldR_inv (m_law_entries_s1 r) (fun j (q : List EN) => q = ents r j) ((List.range n).map fun (k : Nat) => (k : Int)) 0 [] rfl (fun j q x hx hp => by
    obtain ⟨hj, rfl⟩ := rng_at hx
    rw [Nat.zero_add] at hp ⊢
    have a := ents_len hr h6 j (by omega)
    have b := at_small hr h6 hj
    refine ⟨_, ?_, (ents_succ r j).symm⟩
    unfold m_law_entries_s1
    dsimp only
    rw [ixR_at (by rw [hr.len]; exact hj), R.ok_bind, two _ _ _ (by rw [hp]; omega), R.ok_bind, hp])
  rw [List.length_map, List.length_range, Nat.zero_add] at hq
  unfold m_law_entries
  dsimp only
  rw [hr.len, rngR_nat (by omega), R.ok_bind, e, R.ok_bind, hq]
theorem ents_ok {n : Nat} {d : List (List (List Nat × Bool))} {r : List (List (List Nat))} (hb : BookIs d r) (hr : RulesOk n r) (h1 : 1 ≤ n) (h6 : n ≤ 6) : m_Book_entries d = .ok (ents r n) := by
  have hdl : d.length = n := hb.len.trans hr.len
  have hsm := sts_small h6
  have two : ∀ (i : Nat), i < n → ∀ (l : List (List Nat)) (zs : List EN), zs.length + l.length ≤ 16000000 → R.foldR (m_Book_entries_s2 d (i : Int)) ((), zs) l = .ok ((), zs ++ (l.filter fun s => memD s (at_ r i)).map fun s => ((i : Int), s)) := by
    intro i hi l
    induction l with
    | nil => intro zs _; simp [R.foldR]
    | cons s l ih =>
      intro zs hz
      rw [List.length_cons] at hz
      have e : m_Book_entries_s2 d (i : Int) ((), zs) s = cond (memD s (at_ r i)) (.ok ((), zs ++ [((i : Int), s)])) (.ok ((), zs)) := by
        unfold m_Book_entries_s2
        dsimp only
        rw [ixR_at (by omega), R.ok_bind, R.ok_bind, hb.keys i (by rw [hr.len]; exact hi), R.iff_of (by omega)]
      show (m_Book_entries_s2 d (i : Int) ((), zs) s).bind _ = _
      rw [e]
      cases hm : memD s (at_ r i) with
      | true =>
        rw [cond_true, R.ok_bind, ih _ (by simp; omega), List.filter_cons, if_pos hm, List.map_cons, List.append_assoc]; rfl
      | false =>
        rw [cond_false, R.ok_bind, ih _ (by omega), List.filter_cons, if_neg (by rw [hm]; decide)]
  obtain ⟨q, e, hq⟩ := R.foldR_inv (m_Book_entries_s1 d) (fun j (q : Unit × List EN) => q.2 = ents r j) ((List.range n).map fun (k : Nat) => (k : Int)) 0 ((), []) rfl (fun j q x hx hp => by
    obtain ⟨hj, rfl⟩ := rng_at hx
    rw [Nat.zero_add] at hp ⊢
    have a := ents_len hr h6 j (by omega)
    refine ⟨((), ents r (j + 1)), ?_, rfl⟩
    unfold m_Book_entries_s1
    dsimp only
    rw [hdl, all_states_ok h1 h6, R.ok_bind, hp, two j hj _ _ (by omega), hr.flt j hj, ents_succ])
  rw [List.length_map, List.length_range, Nat.zero_add] at hq
  have hl := ents_len hr h6 n (Nat.le_refl _)
  unfold m_Book_entries m_Book_entries_z
  rw [hdl, rngR_nat (by omega), R.ok_bind, e, R.ok_bind, R.ok_noer, R.ok_bind, hq]
  exact R.iff_of (by omega) _
theorem rep_cut {n i : Nat} (h : i < n) (c : Nat) : (List.replicate n 46).take i ++ [c] ++ (List.replicate n 46).drop (i + 1) = List.replicate i 46 ++ c :: List.replicate (n - (i + 1)) 46 := by
  rw [List.take_replicate, List.drop_replicate, Nat.min_eq_left (by omega), List.append_assoc]; rfl
theorem rep_same {n i : Nat} (h : i < n) : List.replicate i 46 ++ 46 :: List.replicate (n - (i + 1)) 46 = List.replicate n 46 := by
  rw [← List.replicate_succ, List.replicate_append_replicate, show i + (n - (i + 1) + 1) = n by omega]
theorem good_len {n i : Nat} {s : List Nat} (h : s.length ≠ n) : goodE n i s = false := by
  unfold goodE
  rw [decide_eq_false (fun z => h (mem_sts.mp z).1)]; rfl
theorem bad_ok {n i : Nat} (h1 : 1 ≤ n) (h6 : n ≤ 6) (hi : i < n) {a b c : Int} (ha : 0 ≤ a ∧ a < 4) : ∃ s, m_law_bad_state (n : Int) (i : Int) (List.replicate n (0 : Int) ++ [a, b, c]) = .ok s ∧ goodE n i s = false ∧ s.length ≤ 7 := by
  have ej : (joinR ([] : List Nat) (List.replicate n [46]) : R Er (List Nat)) = .ok (List.replicate n 46) := by
    have : n = 1 ∨ n = 2 ∨ n = 3 ∨ n = 4 ∨ n = 5 ∨ n = 6 := by omega
    rcases this with rfl | rfl | rfl | rfl | rfl | rfl <;> rfl
  have i0 : ixR (List.replicate n (0 : Int) ++ [a, b, c]) (n : Int) = .ok a := by
    rw [ixR_nat (by simp)]
    simp
  have i1 : ixR (List.replicate n (0 : Int) ++ [a, b, c]) ((n : Int) + 1) = .ok b := by
    rw [show ((n : Int) + 1) = ((n + 1 : Nat) : Int) by omega, ixR_nat (by simp)]
    simp
  have l0 : (List.replicate n 46).length = n := List.length_replicate
  unfold m_law_bad_state
  rw [cutL_pre, List.take_left' (by simp), R.mapR_all (fun _ => [46]) _ (fun x hx => by
    rw [(List.mem_replicate.mp hx).2]; rfl), R.ok_bind, List.map_replicate, ej, R.ok_bind]
  rw [cutL_pre, show ((i : Int) + 1) = ((i + 1 : Nat) : Int) by omega, cutL_suf, catR_ok (by simp; omega), R.ok_bind, catR_ok (by simp; omega), rep_cut hi, rep_same hi, R.ok_bind, i0, R.ok_bind, modR_ok (by omega), R.ok_bind]
  have hk : a % 6 = a := Int.emod_eq_of_lt ha.1 (by omega)
  rw [hk]
  have : a = 0 ∨ a = 1 ∨ a = 2 ∨ a = 3 := by omega
  rcases this with rfl | rfl | rfl | rfl
  · refine ⟨List.replicate n 46 ++ [46], ?_, good_len (by simp), by simp; omega⟩
    rw [decide_eq_true rfl, cond_true, catR_ok (by simp; omega)]
  · refine ⟨(List.replicate n 46).drop 1, ?_, good_len (by simp; omega), by simp; omega⟩
    rw [decide_eq_false (by decide), cond_false, decide_eq_true rfl, cond_true]
    exact congrArg R.ok (cutL_suf (List.replicate n 46) 1)
  · have m1 := Int.emod_nonneg b (show (2 : Int) ≠ 0 by omega)
    have m2 := Int.emod_lt_of_pos b (show (0 : Int) < 2 by omega)
    obtain ⟨q, hq, eq⟩ : ∃ q : Nat, q ≠ 46 ∧ (ixTR ([104, 114] : List Nat) (b % 2) : R Er (List Nat)) = .ok [q] := by
      have : b % 2 = 0 ∨ b % 2 = 1 := by omega
      rcases this with e | e
      · exact ⟨104, by decide, by rw [e]; rfl⟩
      · exact ⟨114, by decide, by rw [e]; rfl⟩
    refine ⟨List.replicate i 46 ++ q :: List.replicate (n - (i + 1)) 46, ?_, ?_, by simp; omega⟩
    · rw [decide_eq_false (by decide), cond_false, decide_eq_false (by decide), cond_false, decide_eq_true rfl, cond_true, cutL_pre, cutL_suf, i1, R.ok_bind, modR_ok (by omega), R.ok_bind, eq, R.ok_bind, catR_ok (by simp; omega), R.ok_bind, catR_ok (by simp; omega), rep_cut hi]
    · unfold goodE
      have : (List.replicate i 46 ++ q :: List.replicate (n - (i + 1)) 46)[i]? = some q := by
        rw [List.getElem?_append_right (by simp)]
        simp
      rw [this, decide_eq_false (fun z => hq (Option.some.inj z)), Bool.and_false]
  · refine ⟨[], ?_, good_len (by simp; omega), by simp⟩
    rw [decide_eq_false (by decide), cond_false, decide_eq_false (by decide), cond_false, decide_eq_false (by decide), cond_false, decide_eq_true rfl, cond_true]
theorem told_state {n : Int} {rows : List EN} {s : List Nat} (e : m_Book_init n rows = .er ((6, [.tx s]), ())) : m_law_told n rows = .ok (Tod.d (rPr rTx rTx) (([115, 116, 97, 116, 101] : List Nat), s)) := by
  unfold m_law_told
  rw [e]; rfl
theorem told_item {n : Int} {rows : List EN} {x : Int} (e : m_Book_init n rows = .er ((5, [.int x]), ())) : m_law_told n rows = .ok (Tod.d (rPr rTx rInt) (([105, 116, 101, 109] : List Nat), x)) := by
  unfold m_law_told
  rw [e]; rfl
theorem sameS (w s : List Nat) : sameR 4 (Tod.d (rPr rTx rTx) (w, s)) (Tod.d (rPr rTx rTx) (w, s)) = .ok true := by
  unfold sameR
  rw [decide_eq_true rfl]
  rfl
theorem sameI (w : List Nat) (x : Int) : sameR 4 (Tod.d (rPr rTx rInt) (w, x)) (Tod.d (rPr rTx rInt) (w, x)) = .ok true := by
  unfold sameR
  rw [decide_eq_true rfl]
  rfl
theorem law_true (ns : List Int) (hl : ns.length ≤ 63) : m_law ns = .ok true := by
  obtain ⟨c0, e0⟩ := cell_ok ns (k := 0) (by omega)
  obtain ⟨c1, e1⟩ := cell_ok ns (k := 1) (by omega)
  obtain ⟨c2, e2⟩ := cell_ok ns (k := 2) (by omega)
  obtain ⟨plan, ep, hpl, hpn⟩ := numbers_ok c0 (n := 8) (l := 12) (by omega) (by omega) (by omega)
  have hpl : plan.length = 8 := hpl
  have ix : ∀ k : Int, 0 ≤ k → k < 8 → ∃ y, ixR plan k = .ok y ∧ 0 ≤ y ∧ y < 12 := fun k h0 h8 => by
    obtain ⟨a, ha, e⟩ := ixR_mem (x := plan) (i := k) ⟨h0, by omega⟩
    exact ⟨a, e, hpn a ha⟩
  obtain ⟨p0, q0, b0⟩ := ix 0 (by omega) (by omega)
  obtain ⟨p1, q1, b1⟩ := ix 1 (by omega) (by omega)
  obtain ⟨p2, q2, b2⟩ := ix 2 (by omega) (by omega)
  obtain ⟨p3, q3, b3⟩ := ix 3 (by omega) (by omega)
  obtain ⟨p4, q4, b4⟩ := ix 4 (by omega) (by omega)
  obtain ⟨p5, q5, b5⟩ := ix 5 (by omega) (by omega)
  obtain ⟨p6, q6, b6⟩ := ix 6 (by omega) (by omega)
  obtain ⟨p7, q7, b7⟩ := ix 7 (by omega) (by omega)
  obtain ⟨n, es, h1, h6⟩ := size_ok b0
  obtain ⟨r, er, hr⟩ := some_ok c1 (p1 % 5) h1 h6
  obtain ⟨nums, en, _, _⟩ := numbers_ok c2 (n := 90) (l := 60) (by omega) (by omega) (by omega)
  have hel := ents_len hr h6 n (Nat.le_refl _)
  have htl : ((ents r n).take p2.toNat).length ≤ (ents r n).length := by rw [List.length_take]; omega
  obtain ⟨rows, es2, hperm⟩ := shuffled_ok (ents r n ++ (ents r n).take p2.toNat) nums (by rw [List.length_append]; omega)
  have hrl : rows.length ≤ 8748 := by rw [hperm.length_eq, List.length_append]; omega
  have hmem : ∀ x, x ∈ rows ↔ x ∈ ents r n := fun x => by
    rw [hperm.mem_iff, List.mem_append]
    exact ⟨fun z => z.elim id List.mem_of_mem_take, .inl⟩
  have hgood : Good n rows := fun x hx => by
    obtain ⟨i, hi, e, hs⟩ := mem_ents.mp ((hmem x).mp hx)
    exact ⟨i, hi, e, good_of hr hi hs⟩
  have hb : BookIs (dOf n rows) r := dOf_is hr.len fun i s hi => by
    rw [hmem, mem_ents]
    exact ⟨fun ⟨j, _, e, hs⟩ => (by have e : (i : Int) = (j : Int) := e; have : i = j := by omega
                                    rw [this]; exact hs), fun hs => ⟨i, hi, rfl, hs⟩⟩
  have ei : mkR (m_Book_init (n : Int) rows) = .ok (dOf n rows) := by rw [init_rows h1 h6 hgood]; rfl
  have hat : ∀ i : Nat, at_ (List.replicate n ([] : List (List Nat))) i = [] := fun i => by
    unfold at_
    rw [List.getD_eq_getElem?_getD, List.getElem?_replicate]
    split <;> rfl
  have h0 : RulesOk n (List.replicate n []) := ⟨by simp, fun i _ => by rw [hat]; exact List.filter_eq_nil_iff.mpr (fun _ _ z => by cases z), fun i _ s hs => by rw [hat] at hs; cases hs⟩
  have he0 : ents (List.replicate n ([] : List (List Nat))) n = [] := List.eq_nil_iff_forall_not_mem.mpr fun x hx => by
    obtain ⟨i, hi, _, hs⟩ := mem_ents.mp hx
    have : at_ (List.replicate n ([] : List (List Nat))) i = [] := by unfold at_; rw [List.getD_eq_getElem?_getD, List.getElem?_replicate, if_pos hi]; rfl
    rw [this] at hs; cases hs
  have hb0 : BookIs (dOf n []) (List.replicate n []) := dOf_is (by simp) fun i s hi => by
    have : at_ (List.replicate n ([] : List (List Nat))) i = [] := by unfold at_; rw [List.getD_eq_getElem?_getD, List.getElem?_replicate, if_pos hi]; rfl
    rw [this]; exact ⟨(fun z => nomatch z), (fun z => nomatch z)⟩
  have ei0 : mkR (m_Book_init (n : Int) ([] : List (Int × List Nat))) = .ok (dOf n []) := by rw [init_rows h1 h6 (fun x hx => absurd hx List.not_mem_nil)]; rfl
  have ee0 := ents_ok hb0 h0 h1 h6
  rw [he0] at ee0
  have ee := ents_ok hb hr h1 h6
  have hdl : (dOf n rows).length = n := hb.len.trans hr.len
  have hlk : LK.runC (m_law_b1 r (dOf n rows)) () ((List.range n).map fun (k : Nat) => (k : Int)) = fun k => k () := by
    funext k
    refine R.runC_unit fun x hx k => ?_
    obtain ⟨i, hi, rfl⟩ := mem_rng.mp hx
    unfold m_law_b1
    dsimp only
    rw [getitem_ok hb hr h1 h6 hi, R.ok_bind, ixR_at (by rw [hr.len]; exact hi), R.ok_bind, R.ok_bind, decide_eq_true rfl, R.ok_bind]
    rfl
  have m4 := Int.emod_nonneg p4 (show (n : Int) ≠ 0 by omega)
  have m5 := Int.emod_lt_of_pos p4 (show (0 : Int) < (n : Int) by omega)
  obtain ⟨i, hi⟩ := Int.eq_ofNat_of_zero_le m4
  have hin : i < n := by omega
  have k1 := Int.emod_nonneg p5 (show (4 : Int) ≠ 0 by omega)
  have k2 := Int.emod_lt_of_pos p5 (show (0 : Int) < 4 by omega)
  obtain ⟨bad, eb, hbad, hbl⟩ := bad_ok (b := p6) (c := p7) h1 h6 hin ⟨k1, k2⟩
  have m7 := Int.emod_nonneg p7 (show (rows.length : Int) + 1 ≠ 0 by omega)
  obtain ⟨pl, hpl2⟩ := Int.eq_ofNat_of_zero_le m7
  have lt1 : (rows.take pl).length ≤ 8748 := by rw [List.length_take]; omega
  have lt2 : (rows.drop pl).length ≤ 8748 := by rw [List.length_drop]; omega
  have hA : Good n (rows.take pl) := fun x hx => hgood x (List.mem_of_mem_take hx)
  have hB : ∀ y ∈ rows.drop pl ++ [((i : Int), bad ++ [63])], 0 ≤ y.1 ∧ y.1 < (n : Int) := fun y hy => by
    rcases List.mem_append.mp hy with hy | hy
    · obtain ⟨j, hj, e, _⟩ := hgood y (List.mem_of_mem_drop hy)
      omega
    · rw [List.mem_singleton.mp hy]
      show 0 ≤ (i : Int) ∧ (i : Int) < (n : Int)
      omega
  have w1 := told_state (init_state (x := ((i : Int), bad)) h1 h6 hA hB hin rfl hbad)
  have w2 := told_item (init_item (n := n) (b := []) (x := ((n : Int) + p6, bad)) (a := rows.take pl ++ ((i : Int), bad) :: (rows.drop pl ++ [((i : Int), bad ++ [63])])) h1 h6 (fun y hy => by
    rcases List.mem_append.mp hy with hy | hy
    · obtain ⟨j, hj, e, _⟩ := hA y hy
      omega
    · rcases List.mem_cons.mp hy with rfl | hy
      · show 0 ≤ (i : Int) ∧ (i : Int) < (n : Int)
        omega
      · exact hB y hy) (by show (n : Int) ≤ (n : Int) + p6; omega))
  have er0 : (R.mapR (fun _ => (R.ok true : R Er Bool)) (fun x2 => ((R.ok (0 : Int)) : R Er Int)) ((List.range n).map fun (k : Nat) => (k : Int)) : R Er (List Int)) = .ok (List.replicate n 0) := by
    rw [R.mapR_all (fun _ => (0 : Int)) _ (fun _ _ => rfl), List.map_map]
    refine congrArg R.ok ?_
    have : (((fun _ => (0 : Int)) : Int → Int) ∘ fun (k : Nat) => (k : Int)) = fun _ => 0 := rfl
    rw [this, List.map_const', List.length_range]
  unfold m_law
  rw [e0, R.ok_bind, ep, R.ok_bind, lenR_ok (by simp), R.ok_bind, q0, R.ok_bind, es, R.ok_bind, e1, R.ok_bind, q1, R.ok_bind, modR_ok (by omega), R.ok_bind, er, R.ok_bind, e2, R.ok_bind, en, R.ok_bind, lents_ok hr h6, R.ok_bind]
  rw [q2, R.ok_bind, R.ok_bind, R.ok_bind, cutL_nn _ b2.1, catLR_ok (by omega), R.ok_bind, es2, R.ok_bind]
  dsimp only
  rw [ei, R.ok_bind, q3, R.ok_bind, modR_ok (by omega), R.ok_bind, R.ok_bind]
  have ec : ∀ b : Bool, (cond b ((R.ok (dOf n rows) : R Er (List (List (List Nat × Bool)))).bind fun v => R.ok v) (R.ok (dOf n rows))) = .ok (dOf n rows) := fun b => by cases b <;> rfl
  rw [ec, R.ok_bind, decide_eq_true rfl, Bool.not_true, cond_false]
  unfold m_Book_size
  rw [R.ok_noer, R.ok_bind, hdl, decide_eq_true rfl, R.ok_bind, R.ok_bind, Bool.not_true, cond_false, ee, R.ok_bind, decide_eq_true rfl, Bool.not_true, cond_false, rngR_nat (by omega), R.ok_bind, hlk]
  dsimp only
  rw [ei0, R.ok_bind, ee0, R.ok_bind, R.ok_bind]
  try dsimp only
  rw [decide_eq_true rfl, Bool.not_true, cond_false, q4]
  try dsimp only [R.ok_bind]
  rw [modR_ok (by omega)]
  try dsimp only [R.ok_bind]
  rw [er0, q5]
  try dsimp only [R.ok_bind]
  rw [modR_ok (by omega)]
  try dsimp only [R.ok_bind]
  rw [q6, q7]
  try dsimp only [R.ok_bind]
  rw [lenR_ok (by simp)]
  try dsimp only [R.ok_bind]
  rw [catLR_ok (by simp; omega)]
  try dsimp only [R.ok_bind]
  rw [hi, eb]
  try dsimp only [R.ok_bind]
  rw [modR_ok (by omega)]
  try dsimp only [R.ok_bind]
  rw [hpl2, lenR_ok (by simp)]
  try dsimp only [R.ok_bind]
  rw [cutL_pre, catLR_ok (by simp; omega)]
  try dsimp only [R.ok_bind]
  rw [cutL_suf, catLR_ok (by simp; omega)]
  try dsimp only [R.ok_bind]
  rw [catR_ok (by simp; omega)]
  try dsimp only [R.ok_bind]
  rw [lenR_ok (by simp)]
  try dsimp only [R.ok_bind]
  rw [catLR_ok (by simp; omega)]
  try dsimp only [R.ok_bind]
  have eform : rows.take pl ++ [((i : Int), bad)] ++ rows.drop pl ++ [((i : Int), bad ++ [63])] = rows.take pl ++ ((i : Int), bad) :: (rows.drop pl ++ [((i : Int), bad ++ [63])]) := by simp
  rw [eform, w1]
  try dsimp only [R.ok_bind]
  rw [sameS]
  try dsimp only [R.ok_bind]
  try rw [Bool.not_true, cond_false]
  try rw [decide_eq_true rfl, Bool.not_true, cond_false]
  rw [lenR_ok (by simp)]
  try dsimp only [R.ok_bind]
  rw [catLR_ok (by simp; omega)]
  try dsimp only [R.ok_bind]
  rw [w2]
  try dsimp only [R.ok_bind]
  exact sameI _ _
end Zk08
namespace Zk08
open PySem L2 LK LKX LKB LJ LG PyProof.Rows PySem.Spec
local macro_rules | `(tactic| walk_at "lw") => `(tactic| (repeat (first | exact lw_nil | refine lw_no ?_ | refine lw_eq rfl ?_)))
def top (i : Nat) : Stmt := PySem.Challenge.pw_lockrules_k08_books_of_entries.main.body.getD i (.Pass ⟨0, 0, 0, 0⟩)
structure Bt (P : Program) (w : World) (K : PySem.W.Frag) (mg : Str → Option Value) (xt : XT) : Prop where
  z_range : mg "range" = none
  z_len : mg "len" = none
  z_all : mg "all" = none
  z_list : mg "list" = none
  z_int : mg "int" = none
  z_isinstance : mg "isinstance" = none
  z_bool : mg "bool" = none
  z_str : mg "str" = none
  z_tuple : mg "tuple" = none
  z_sorted : mg "sorted" = none
  c_LARGEST : ∃ u, mg "LARGEST" = some u ∧ RelV (.int 6) u
  c_SIGNS : ∃ u, mg "SIGNS" = some u ∧ RelV (.str ".hr") u
  x_BadSize : XK1 P w K mg xt "BadSize" 4 "count"
  x_BadItem : XK1 P w K mg xt "BadItem" 5 "item"
  x_BadState : XK1 P w K mg xt "BadState" 6 "state"
  gm_Book : mg "Book" = some (.ref (xt.cls 100))
  cl_Book : ClsB K (xt.cls 100) "rules"
  df_Book : ∀ F : Hp, rSq K (rPr rInt rTx) F (.ref (xt.cls 101)) ([] : List (Int × List Nat))
  g_BadSize : mg "BadSize" = some (.ref (xt.cls 4))
  g_BadItem : mg "BadItem" = some (.ref (xt.cls 5))
  g_BadState : mg "BadState" = some (.ref (xt.cls 6))
  h_BadItem : ∀ k b, h_BadItem k = some b → PySem.W.exmOne K (.ref (xt.cls k)) (.ref (xt.cls 5)) = some b
  h_BadState : ∀ k b, h_BadState k = some b → PySem.W.exmOne K (.ref (xt.cls k)) (.ref (xt.cls 6)) = some b
section
variable {P : Program} {w : World} {K : PySem.W.Frag} {mg : Str → Option Value} {base : Heap} {xt : XT}
abbrev st_m_start : Stmt := top 14
theorem sc_m_start : FnScope ["size"] ["size"] (defScope st_m_start) := ⟨rfl, rfl, rfl, by decide +kernel, rfl, by decide +kernel, by decide +kernel⟩
set_option maxHeartbeats 4000000 in
theorem ok_m_start (B : Bt P w K mg xt) {fa : Addr} {fd : FuncData} (Fn : Fun K "start" "start" st_m_start fa fd) : FnOk P w K mg base (L2.CX P w) 2 fa fd ["size"] (spR xt (Pt.cons .sh rInt inferInstance Pt.nil) (fun (a : (Int × Unit)) => m_start a.1) (fun b => sF rTx b)) := by
  refine ok_R (S' := Unit) 0 Fn sc_m_start rfl rfl (fun _ => .no) (fun _ _ h => nomatch h) (fun _ _ h => nomatch h) (fun cdv A outer s0 H E0_ hr a => ?_)
  obtain ⟨v_size, ⟨⟩⟩ := a
  refine ⟨fun _ => List.replicate 1 .no, _, (xb_if (S := Unit) (slj := (fun s1 => [sF rInt v_size])) () (lw_nos rfl) (xqw (xqor (xqc (xlt (xv 0) xint)) (xqor1 (xqc (xgt (xv 0) (xglob (r := rInt) B.c_LARGEST (fun _ => rfl)))))))
(xb_raise1 () (lw_nos rfl) B.x_BadSize.toXk hr (xv 0))
(xb_nil () (by walk_at "lw")) (fun s1 =>
(xb_ret () (lw_nos rfl) (fun a => a) (fun _ => rfl) (xn (xrep (xtx [46]) (xv 0)))))), ?_⟩
  all_goals (show _ = m_start v_size; unfold m_start; first | (simp only [R.bindOk, R.bindEr, R.bindNo, R.thnOk, R.thnEr, R.thnNo, R.thn_id, R.bind_bind, R.thn_bind, R.bind_ok, R.cond_ok, R.noerOk, R.bind_thn, R.thn_thn, cond_true, cond_false]; done) | rfl)
abbrev st_m_all_states : Stmt := top 15
theorem sc_m_all_states : FnScope ["size", "rows", "place", "row", "sign"] ["size"] (defScope st_m_all_states) := ⟨rfl, rfl, rfl, by decide +kernel, rfl, by decide +kernel, by decide +kernel⟩
set_option maxHeartbeats 4000000 in
theorem ok_m_all_states (B : Bt P w K mg xt) {fa : Addr} {fd : FuncData} (Fn : Fun K "all_states" "all_states" st_m_all_states fa fd) {a_start : Addr} {d_start : FuncData} (C_start : Cal K mg "start" a_start d_start ["size"]) (G_start : FnOk P w K mg base (L2.CX P w) 2 a_start d_start ["size"] (spR xt (Pt.cons .sh rInt inferInstance Pt.nil) (fun (a : (Int × Unit)) => m_start a.1) (fun b => sF rTx b))) : FnOk P w K mg base (L2.CX P w) 3 fa fd ["size"] (spR xt (Pt.cons .sh rInt inferInstance Pt.nil) (fun (a : (Int × Unit)) => m_all_states a.1) (fun b => sL rTx b)) := by
  refine ok_R (S' := Unit) 4 Fn sc_m_all_states rfl rfl (fun _ => .no) (fun _ _ h => nomatch h) (fun _ _ h => nomatch h) (fun cdv A outer s0 H E0_ hr a => ?_)
  obtain ⟨v_size, ⟨⟩⟩ := a
  refine ⟨fun _ => List.replicate 5 .no, _, (xb_set 1 (fun v_rows1 => [sF rInt v_size, sL rTx v_rows1, .no, .no, .no]) () (lw_nos rfl) (xn_lst (r := rTx) (xl_cons (xtx []) xl_nil)) (fun _ => rfl) (fun v_rows1 =>
(xb_forv (T := (List (List Nat))) (m_all_states_s1) (fun t1 => [sF rInt v_size, sL rTx t1, .no, .no, .no]) v_rows1 () (lw_nos rfl) (by walk_at "lw") cnD_po (xi_rng (xlenT (xsh (xcall C_start G_start hr (xa_cons (xv 0) xa_nil))) B.z_len) B.z_range) (xg_name 2) (fun t1 x1 => [sF rInt v_size, sL rTx t1, sF rInt x1, .no, .no]) (fun _ _ => rfl) (fun t1 x1 => XB.cast
(xb_fz 1 [sF rInt v_size, sF (rLst rTx) t1, sF rInt x1, .no, .no] rfl rfl (xb_setLc 1 (fun v_rows3 => [sF rInt v_size, sL rTx v_rows3, sF rInt x1, .no, .no]) () (lw_nos rfl) (xlc2 [("row", 3), ("sign", 4)] [4] (fun x2 => [sF rInt v_size, sF (rLst rTx) t1, sF rInt x1, sF rTx x2, .no]) (fun x2 x3 => [sF rInt v_size, sF (rLst rTx) t1, sF rInt x1, sF rTx x2, sF rTx x3]) (xi_list (xv 1)) (fun _ _ _ _ _ => (xg_name 3)) (fun _ => rfl) (fun _ _ _ _ _ x2 => xqs0) (fun _ _ _ _ _ x2 => (xi_str (xglob (a := [46, 104, 114]) B.c_SIGNS (fun _ => ⟨rfl, by decide, by decide⟩)))) (fun _ _ _ _ _ => (xg_name 4)) (fun _ _ => rfl) (fun _ _ _ _ _ x2 x3 => xqs0) (fun _ _ _ _ _ x2 x3 => (xcat (xv 3) (xv 4))) (ok := (by decide +kernel : blkC ["size", "rows", "place", "row", "sign"] (defScope st_m_all_states) _ [("row", 3), ("sign", 4)] = true))) (fun _ => rfl) (fun v_rows3 =>
(xb_nil v_rows3 (by walk_at "lw"))))) (fun k => by unfold m_all_states_s1; first | (simp only [R.bindOk, R.bindEr, R.bindNo, R.thnOk, R.thnEr, R.thnNo, R.thn_id, R.bind_bind, R.thn_bind, R.bind_ok, R.cond_ok, R.noerOk, R.bind_thn, R.thn_thn, cond_true, cond_false]; done) | rfl)) (fun t2 =>
(xb_retO 1 () rfl t2 rfl (lw_nos rfl)))))), ?_⟩
  all_goals (show _ = m_all_states v_size; unfold m_all_states; first | (simp only [R.bindOk, R.bindEr, R.bindNo, R.thnOk, R.thnEr, R.thnNo, R.thn_id, R.bind_bind, R.thn_bind, R.bind_ok, R.cond_ok, R.noerOk, R.bind_thn, R.thn_thn, cond_true, cond_false]; done) | rfl)
abbrev st_m_is_state : Stmt := top 16
theorem sc_m_is_state : FnScope ["size", "state", "sign"] ["size", "state"] (defScope st_m_is_state) := ⟨rfl, rfl, rfl, by decide +kernel, rfl, by decide +kernel, by decide +kernel⟩
set_option maxHeartbeats 4000000 in
theorem ok_m_is_state (B : Bt P w K mg xt) {fa : Addr} {fd : FuncData} (Fn : Fun K "is_state" "is_state" st_m_is_state fa fd) : FnOk P w K mg base (L2.CX P w) 1 fa fd ["size", "state"] (spR xt (Pt.cons .sh rInt inferInstance (Pt.cons .sh rTx inferInstance Pt.nil)) (fun (a : (Int × (List Nat) × Unit)) => m_is_state a.1 a.2.1) (fun b => sF rBl b)) := by
  refine ok_R (S' := Unit) 1 Fn sc_m_is_state rfl rfl (fun _ => .no) (fun _ _ h => nomatch h) (fun _ _ h => nomatch h) (fun cdv A outer s0 H E0_ hr a => ?_)
  obtain ⟨v_size, v_state, ⟨⟩⟩ := a
  refine ⟨fun _ => List.replicate 3 .no, _, (xb_ret () (lw_nos rfl) (fun a => a) (fun _ => rfl) (xn (xand (xcv (xeq (xlenT (xv 1) B.z_len) (xv 0))) (xone (xall (xfz (xnlc (xlc [("sign", 2)] (fun x1 => [sF rInt v_size, sF rTx v_state, sF rTx x1]) (xi_str (xv 1)) (fun _ _ _ _ _ => (xg_name 2)) (fun _ => rfl) (fun _ _ _ _ _ x1 => xqs0) (fun _ _ _ _ _ x1 => (xcv (xinT (xv 2) (xglob (a := [46, 104, 114]) B.c_SIGNS (fun _ => ⟨rfl, by decide, by decide⟩))))) (ok := (by decide +kernel : blkC ["size", "state", "sign"] (defScope st_m_is_state) _ [("sign", 2)] = true))))) B.z_all))))), ?_⟩
  all_goals (show _ = m_is_state v_size v_state; unfold m_is_state; first | (simp only [R.bindOk, R.bindEr, R.bindNo, R.thnOk, R.thnEr, R.thnNo, R.thn_id, R.bind_bind, R.thn_bind, R.bind_ok, R.cond_ok, R.noerOk, R.bind_thn, R.thn_thn, cond_true, cond_false]; done) | rfl)
abbrev st_m_check_item : Stmt := top 24
theorem sc_m_check_item : FnScope ["size", "item"] ["size", "item"] (defScope st_m_check_item) := ⟨rfl, rfl, rfl, by decide +kernel, rfl, by decide +kernel, by decide +kernel⟩
set_option maxHeartbeats 4000000 in
theorem ok_m_check_item (B : Bt P w K mg xt) {fa : Addr} {fd : FuncData} (Fn : Fun K "check_item" "check_item" st_m_check_item fa fd) : FnOk P w K mg base (L2.CX P w) 2 fa fd ["size", "item"] (spR xt (Pt.cons .sh rInt inferInstance (Pt.cons .sh rInt inferInstance Pt.nil)) (fun (a : (Int × Int × Unit)) => m_check_item a.1 a.2.1) (fun b => sF rNon b)) := by
  refine ok_R (S' := Unit) 0 Fn sc_m_check_item rfl rfl (fun _ => .ok ()) (fun _ b h F H F1 H1 g => by cases h; exact env1 g ⟨.non, rfl, rfl⟩ fun _ _ z => nomatch z) (fun _ _ h => nomatch h) (fun cdv A outer s0 H E0_ hr a => ?_)
  obtain ⟨v_size, v_item, ⟨⟩⟩ := a
  refine ⟨fun _ => List.replicate 2 .no, _, (xb_if () (lw_nos rfl) (xqw (xqor (xqc (xlt (xv 1) xint)) (xqor1 (xqc (xge (xv 1) (xv 0))))))
(xb_raise1 () (lw_nos rfl) B.x_BadItem.toXk hr (xv 1))
(xb_nil () (lw_nos rfl)) (fun s => xb_nil s (Lw.refl _))), ?_⟩
  all_goals (show _ = m_check_item v_size v_item; unfold m_check_item; first | (simp only [R.bindOk, R.bindEr, R.bindNo, R.thnOk, R.thnEr, R.thnNo, R.thn_id, R.bind_bind, R.thn_bind, R.bind_ok, R.cond_ok, R.noerOk, R.bind_thn, R.thn_thn, cond_true, cond_false]; done) | rfl)
abbrev st_m_check_entry : Stmt := top 25
theorem sc_m_check_entry : FnScope ["size", "item", "state"] ["size", "item", "state"] (defScope st_m_check_entry) := ⟨rfl, rfl, rfl, by decide +kernel, rfl, by decide +kernel, by decide +kernel⟩
set_option maxHeartbeats 4000000 in
theorem ok_m_check_entry (B : Bt P w K mg xt) {fa : Addr} {fd : FuncData} (Fn : Fun K "check_entry" "check_entry" st_m_check_entry fa fd) {a_is_state : Addr} {d_is_state : FuncData} (C_is_state : Cal K mg "is_state" a_is_state d_is_state ["size", "state"]) (G_is_state : FnOk P w K mg base (L2.CX P w) 1 a_is_state d_is_state ["size", "state"] (spR xt (Pt.cons .sh rInt inferInstance (Pt.cons .sh rTx inferInstance Pt.nil)) (fun (a : (Int × (List Nat) × Unit)) => m_is_state a.1 a.2.1) (fun b => sF rBl b))) : FnOk P w K mg base (L2.CX P w) 2 fa fd ["size", "item", "state"] (spR xt (Pt.cons .sh rInt inferInstance (Pt.cons .sh rInt inferInstance (Pt.cons .sh rTx inferInstance Pt.nil))) (fun (a : (Int × Int × (List Nat) × Unit)) => m_check_entry a.1 a.2.1 a.2.2.1) (fun b => sF rNon b)) := by
  refine ok_R (S' := Unit) 0 Fn sc_m_check_entry rfl rfl (fun _ => .ok ()) (fun _ b h F H F1 H1 g => by cases h; exact env1 g ⟨.non, rfl, rfl⟩ fun _ _ z => nomatch z) (fun _ _ h => nomatch h) (fun cdv A outer s0 H E0_ hr a => ?_)
  obtain ⟨v_size, v_item, v_state, ⟨⟩⟩ := a
  refine ⟨fun _ => List.replicate 3 .no, _, (xb_if () (lw_nos rfl) (xqw (xqor (xqnot (xqv (xsh (xcall C_is_state G_is_state hr (xa_cons (xv 0) (xa_cons (xv 2) xa_nil)))))) (xqor1 (xqc (xne (xixT (xv 2) (xv 1)) (xtx [46]))))))
(xb_raise1 () (lw_nos rfl) B.x_BadState.toXk hr (xv 2))
(xb_nil () (lw_nos rfl)) (fun s => xb_nil s (Lw.refl _))), ?_⟩
  all_goals (show _ = m_check_entry v_size v_item v_state; unfold m_check_entry; first | (simp only [R.bindOk, R.bindEr, R.bindNo, R.thnOk, R.thnEr, R.thnNo, R.thn_id, R.bind_bind, R.thn_bind, R.bind_ok, R.cond_ok, R.noerOk, R.bind_thn, R.thn_thn, cond_true, cond_false]; done) | rfl)
abbrev st_m_Book_init : Stmt := inClass (top 26) 0
theorem sc_m_Book_init : FnScope ["self", "size", "entries", "first", "rows", "item", "state", "place"] ["self", "size", "entries"] (defScope st_m_Book_init) := ⟨rfl, rfl, rfl, by decide +kernel, rfl, by decide +kernel, by decide +kernel⟩
set_option maxHeartbeats 4000000 in
theorem ok_m_Book_init (B : Bt P w K mg xt) {fa : Addr} {fd : FuncData} (Fn : FunD K "__init__" "Book.__init__" (defArgs st_m_Book_init) (defBody st_m_Book_init) (defScope st_m_Book_init) [V.ref (xt.cls 101)] [] fa fd) {a_start : Addr} {d_start : FuncData} (C_start : Cal K mg "start" a_start d_start ["size"]) (G_start : FnOk P w K mg base (L2.CX P w) 2 a_start d_start ["size"] (spR xt (Pt.cons .sh rInt inferInstance Pt.nil) (fun (a : (Int × Unit)) => m_start a.1) (fun b => sF rTx b))) {a_check_item : Addr} {d_check_item : FuncData} (C_check_item : Cal K mg "check_item" a_check_item d_check_item ["size", "item"]) (G_check_item : FnOk P w K mg base (L2.CX P w) 2 a_check_item d_check_item ["size", "item"] (spR xt (Pt.cons .sh rInt inferInstance (Pt.cons .sh rInt inferInstance Pt.nil)) (fun (a : (Int × Int × Unit)) => m_check_item a.1 a.2.1) (fun b => sF rNon b))) {a_check_entry : Addr} {d_check_entry : FuncData} (C_check_entry : Cal K mg "check_entry" a_check_entry d_check_entry ["size", "item", "state"]) (G_check_entry : FnOk P w K mg base (L2.CX P w) 2 a_check_entry d_check_entry ["size", "item", "state"] (spR xt (Pt.cons .sh rInt inferInstance (Pt.cons .sh rInt inferInstance (Pt.cons .sh rTx inferInstance Pt.nil))) (fun (a : (Int × Int × (List Nat) × Unit)) => m_check_entry a.1 a.2.1 a.2.2.1) (fun b => sF rNon b))) : FnOk P w K mg base (L2.CX P w) 3 fa fd ["self", "size", "entries"] (spM xt (m0 (xt.cls 100)) (Pt.cons .sh rInt inferInstance (Pt.cons .bo (rSq K (rPr rInt rTx)) inferInstance Pt.nil)) (fun (g : Unit) (a : (Int × (List (Int × (List Nat))) × Unit)) => m_Book_init a.1 a.2.1) (fun o d => sO (mB (xt.cls 100) "rules" (rDk rTx rBl) o d)) (fun _ (_ : Unit) => .no)) := by
  refine ok_MD (S' := (List (List ((List Nat) × Bool)))) (y := "self") (N := ["size", "entries", "first", "rows", "item", "state", "place"]) 5 Fn sc_m_Book_init rfl rfl (fun s => .ok s) (fun _ _ h => nomatch h) (fun cdv A outer s0 H E0_ hr p_ g_ a => ?_)
  obtain ⟨v_size, v_entries, ⟨⟩⟩ := a
  refine ⟨fun s => sO (mB (xt.cls 100) "rules" (rDk rTx rBl) (some p_) s) :: List.replicate 7 .no, _, (xb_set 3 (fun v_first1 => [sO (m0 (xt.cls 100) (some p_) ()), sF rInt v_size, sB (rSq K (rPr rInt rTx)) v_entries, sF rTx v_first1, .no, .no, .no, .no]) () (by walk_at "lw") (xn (xsh (xcall C_start G_start hr (xa_cons (xv 1) xa_nil)))) (fun _ => rfl) (fun v_first1 =>
(xb_set 4 (fun v_rows1 => [sO (m0 (xt.cls 100) (some p_) ()), sF rInt v_size, sB (rSq K (rPr rInt rTx)) v_entries, sF rTx v_first1, sF (rLst (rPr rInt rTx)) v_rows1, .no, .no, .no]) () (by walk_at "lw") (xn (xfz (xlistQf (xvb 2) B.z_list))) (fun _ => rfl) (fun v_rows1 =>
(xb_forv (T := Unit) (m_Book_init_s1 v_size) (fun t1 => [sO (m0 (xt.cls 100) (some p_) ()), sF rInt v_size, sB (rSq K (rPr rInt rTx)) v_entries, sF rTx v_first1, sF (rLst (rPr rInt rTx)) v_rows1, .no, .no, .no]) () () (by walk_at "lw") (by walk_at "lw") cnD_po (xi_list (xv 4)) (xg_pr 5 6) (fun t1 x1 => [sO (m0 (xt.cls 100) (some p_) ()), sF rInt v_size, sB (rSq K (rPr rInt rTx)) v_entries, sF rTx v_first1, sF (rLst (rPr rInt rTx)) v_rows1, sF rInt x1.1, sF rTx x1.2, .no]) (fun _ _ => rfl) (fun t1 x1 => XB.cast
(xb_expr () (by walk_at "lw") (xsh (xcall C_check_item G_check_item hr (xa_cons (xv 1) (xa_cons (xv 5) xa_nil))))
(xb_nil () (by walk_at "lw"))) (fun k => by unfold m_Book_init_s1; first | (simp only [R.bindOk, R.bindEr, R.bindNo, R.thnOk, R.thnEr, R.thnNo, R.thn_id, R.bind_bind, R.thn_bind, R.bind_ok, R.cond_ok, R.noerOk, R.bind_thn, R.thn_thn, cond_true, cond_false]; done) | rfl)) (fun t2 =>
(xb_forv (T := Unit) (m_Book_init_s2 v_size) (fun t3 => [sO (m0 (xt.cls 100) (some p_) ()), sF rInt v_size, sB (rSq K (rPr rInt rTx)) v_entries, sF rTx v_first1, sF (rLst (rPr rInt rTx)) v_rows1, .no, .no, .no]) () () (by walk_at "lw") (by walk_at "lw") cnD_po (xi_list (xv 4)) (xg_pr 5 6) (fun t3 x2 => [sO (m0 (xt.cls 100) (some p_) ()), sF rInt v_size, sB (rSq K (rPr rInt rTx)) v_entries, sF rTx v_first1, sF (rLst (rPr rInt rTx)) v_rows1, sF rInt x2.1, sF rTx x2.2, .no]) (fun _ _ => rfl) (fun t3 x2 => XB.cast
(xb_expr () (by walk_at "lw") (xsh (xcall C_check_entry G_check_entry hr (xa_cons (xv 1) (xa_cons (xv 5) (xa_cons (xv 6) xa_nil)))))
(xb_nil () (by walk_at "lw"))) (fun k => by unfold m_Book_init_s2; first | (simp only [R.bindOk, R.bindEr, R.bindNo, R.thnOk, R.thnEr, R.thnNo, R.thn_id, R.bind_bind, R.thn_bind, R.bind_ok, R.cond_ok, R.noerOk, R.bind_thn, R.thn_thn, cond_true, cond_false]; done) | rfl)) (fun t4 =>
(xb_init1 0 (fun v_self1 => [sO (mB (xt.cls 100) "rules" (rDk rTx rBl) (some p_) v_self1), sF rInt v_size, sB (rSq K (rPr rInt rTx)) v_entries, sF rTx v_first1, sF (rLst (rPr rInt rTx)) v_rows1, .no, .no, .no]) () (by walk_at "lw") rfl (xnlc (xlc [("item", 5)] (fun x3 => [sO (m0 (xt.cls 100) (some p_) ()), sF rInt v_size, sB (rSq K (rPr rInt rTx)) v_entries, sF rTx v_first1, sF (rLst (rPr rInt rTx)) v_rows1, sF rInt x3, .no, .no]) (xi_rng (xlenT (xv 3) B.z_len) B.z_range) (fun _ _ _ _ _ => (xg_name 5)) (fun _ => rfl) (fun _ _ _ _ _ x3 => xqs0) (fun _ _ _ _ _ x3 => (xfz (xdc [("place", 7), ("state", 6)] (fun x4 => [sO (m0 (xt.cls 100) (some p_) ()), sF rInt v_size, sB (rSq K (rPr rInt rTx)) v_entries, sF rTx v_first1, sF (rLst (rPr rInt rTx)) v_rows1, sF rInt x3, sF rTx x4.2, sF rInt x4.1]) (xi_list (xv 4)) (fun _ _ _ _ _ => (xg_pr 7 6)) (fun _ => rfl) (fun _ _ _ _ _ x4 => (xqs1 (xqc (xeq (xv 7) (xv 5))))) (fun _ _ _ _ _ x4 => (xv 6)) (fun _ _ _ _ _ x4 => xbl) (ok := by rfl)))) (ok := (by decide +kernel : blkC ["self", "size", "entries", "first", "rows", "item", "state", "place"] (defScope st_m_Book_init) _ [("item", 5)] = true)))) B.cl_Book.cl B.cl_Book.no (fun _ => rfl) (fun v_self1 =>
(xb_nil v_self1 (by walk_at "lw")))))))))))), ?_, ?_⟩
  · show _ = m_Book_init v_size v_entries; unfold m_Book_init; first | (simp only [R.bindOk, R.bindEr, R.bindNo, R.thnOk, R.thnEr, R.thnNo, R.thn_id, R.bind_bind, R.thn_bind, R.bind_ok, R.cond_ok, R.noerOk, R.bind_thn, R.thn_thn, cond_true, cond_false]; done) | rfl
  · intro s d h; cases h; exact Lw.refl _
abbrev st_m_Book_size : Stmt := inClass (top 26) 1
theorem sc_m_Book_size : FnScope ["self"] ["self"] (defScope st_m_Book_size) := ⟨rfl, rfl, rfl, by decide +kernel, rfl, by decide +kernel, by decide +kernel⟩
set_option maxHeartbeats 4000000 in
theorem ok_m_Book_size (B : Bt P w K mg xt) {fa : Addr} {fd : FuncData} (Fn : Fun K "size" "Book.size" st_m_Book_size fa fd) : FnOk P w K mg base (L2.CX P w) 1 fa fd ["self"] (spR xt (Pt.cons .bo (rI1 (xt.cls 100) "rules" (rLst (rDk rTx rBl))) inferInstance Pt.nil) (fun (a : ((List (List ((List Nat) × Bool))) × Unit)) => m_Book_size a.1) (fun b => sF rInt b)) := by
  refine ok_R (S' := Unit) 0 Fn sc_m_Book_size rfl rfl (fun _ => .no) (fun _ _ h => nomatch h) (fun _ _ h => nomatch h) (fun cdv A outer s0 H E0_ hr a => ?_)
  obtain ⟨v_self, ⟨⟩⟩ := a
  refine ⟨fun _ => List.replicate 1 .no, _, (xb_ret () (lw_nos rfl) (fun a => a) (fun _ => rfl) (xn (xlenL (xfld (xvb 0) B.cl_Book.cl B.cl_Book.no) B.z_len))), ?_⟩
  all_goals (show _ = m_Book_size v_self; unfold m_Book_size; first | (simp only [R.bindOk, R.bindEr, R.bindNo, R.thnOk, R.thnEr, R.thnNo, R.thn_id, R.bind_bind, R.thn_bind, R.bind_ok, R.cond_ok, R.noerOk, R.bind_thn, R.thn_thn, cond_true, cond_false]; done) | rfl)
abbrev st_m_Book_getitem : Stmt := inClass (top 26) 2
theorem sc_m_Book_getitem : FnScope ["self", "item", "rule", "state"] ["self", "item"] (defScope st_m_Book_getitem) := ⟨rfl, rfl, rfl, by decide +kernel, rfl, by decide +kernel, by decide +kernel⟩
set_option maxHeartbeats 4000000 in
theorem ok_m_Book_getitem (B : Bt P w K mg xt) {fa : Addr} {fd : FuncData} (Fn : Fun K "__getitem__" "Book.__getitem__" st_m_Book_getitem fa fd) {a_check_item : Addr} {d_check_item : FuncData} (C_check_item : Cal K mg "check_item" a_check_item d_check_item ["size", "item"]) (G_check_item : FnOk P w K mg base (L2.CX P w) 2 a_check_item d_check_item ["size", "item"] (spR xt (Pt.cons .sh rInt inferInstance (Pt.cons .sh rInt inferInstance Pt.nil)) (fun (a : (Int × Int × Unit)) => m_check_item a.1 a.2.1) (fun b => sF rNon b))) {a_all_states : Addr} {d_all_states : FuncData} (C_all_states : Cal K mg "all_states" a_all_states d_all_states ["size"]) (G_all_states : FnOk P w K mg base (L2.CX P w) 3 a_all_states d_all_states ["size"] (spR xt (Pt.cons .sh rInt inferInstance Pt.nil) (fun (a : (Int × Unit)) => m_all_states a.1) (fun b => sL rTx b))) : FnOk P w K mg base (L2.CX P w) 4 fa fd ["self", "item"] (spR xt (Pt.cons .bo (rI1 (xt.cls 100) "rules" (rLst (rDk rTx rBl))) inferInstance (Pt.cons .sh rInt inferInstance Pt.nil)) (fun (a : ((List (List ((List Nat) × Bool))) × Int × Unit)) => m_Book_getitem a.1 a.2.1) (fun b => sL rTx b)) := by
  refine ok_R (S' := Unit) 2 Fn sc_m_Book_getitem rfl rfl (fun _ => .no) (fun _ _ h => nomatch h) (fun _ _ h => nomatch h) (fun cdv A outer s0 H E0_ hr a => ?_)
  obtain ⟨v_self, v_item, ⟨⟩⟩ := a
  refine ⟨fun _ => List.replicate 4 .no, _, (xb_expr () (lw_nos rfl) (xsh (xcall C_check_item G_check_item hr (xa_cons (xlenL (xfld (xvb 0) B.cl_Book.cl B.cl_Book.no) B.z_len) (xa_cons (xv 1) xa_nil))))
(xb_setb 2 (fun v_rule1 => [sB (rI1 (xt.cls 100) "rules" (rLst (rDk rTx rBl))) v_self, sF rInt v_item, sB (rDk rTx rBl) v_rule1, .no]) () (lw_nos rfl) (xixL (xfld (xvb 0) B.cl_Book.cl B.cl_Book.no) (xv 1)) (fun _ => rfl) (fun v_rule1 =>
(xb_ret () (lw_nos rfl) (fun a => a) (fun _ => rfl) (xnlc (xlc [("state", 3)] (fun x1 => [sB (rI1 (xt.cls 100) "rules" (rLst (rDk rTx rBl))) v_self, sF rInt v_item, sB (rDk rTx rBl) v_rule1, sF rTx x1]) (xi_list (xfz (xcall C_all_states G_all_states hr (xa_cons (xlenL (xfld (xvb 0) B.cl_Book.cl B.cl_Book.no) B.z_len) xa_nil)))) (fun _ _ _ _ _ => (xg_name 3)) (fun _ => rfl) (fun _ _ _ _ _ x1 => (xqs1 (xqc (xdin hr (xv 3) (xvb 2))))) (fun _ _ _ _ _ x1 => (xv 3)) (ok := (by decide +kernel : blkC ["self", "item", "rule", "state"] (defScope st_m_Book_getitem) _ [("state", 3)] = true)))))))), ?_⟩
  all_goals (show _ = m_Book_getitem v_self v_item; unfold m_Book_getitem; first | (simp only [R.bindOk, R.bindEr, R.bindNo, R.thnOk, R.thnEr, R.thnNo, R.thn_id, R.bind_bind, R.thn_bind, R.bind_ok, R.cond_ok, R.noerOk, R.bind_thn, R.thn_thn, cond_true, cond_false]; done) | rfl)
abbrev st_m_Book_entries : Stmt := inClass (top 26) 6
theorem sc_m_Book_entries : GScope ["self", "item", "state"] ["self"] (defScope st_m_Book_entries) := ⟨rfl, rfl, rfl, by decide +kernel, rfl, by decide +kernel, by decide +kernel⟩
set_option maxHeartbeats 4000000 in
theorem ok_m_Book_entries (B : Bt P w K mg xt) {fa : Addr} {fd : FuncData} (Fn : Fun K "entries" "Book.entries" st_m_Book_entries fa fd) {a_all_states : Addr} {d_all_states : FuncData} (C_all_states : Cal K mg "all_states" a_all_states d_all_states ["size"]) (G_all_states : FnOk P w K mg base (L2.CX P w) 3 a_all_states d_all_states ["size"] (spR xt (Pt.cons .sh rInt inferInstance Pt.nil) (fun (a : (Int × Unit)) => m_all_states a.1) (fun b => sL rTx b))) : GFn P w K mg base 4 fa fd ["self"] (spG (Pt.cons .bo (rI1 (xt.cls 100) "rules" (rLst (rDk rTx rBl))) inferInstance Pt.nil) (fun (zs : List (Int × (List Nat))) (a : ((List (List ((List Nat) × Bool))) × Unit)) => m_Book_entries_z zs a.1) (rPr rInt rTx)) := by
  refine ok_G (S' := Unit) (X := xt) 2 Fn sc_m_Book_entries rfl rfl (fun cdv A outer s0 H E0_ pn_ hr a => ?_)
  obtain ⟨v_self, ⟨⟩⟩ := a
  refine ⟨fun _ => List.replicate 3 .no, _, (xy_for (T := Unit) (m_Book_entries_s1 v_self) (fun _ => [sB (rI1 (xt.cls 100) "rules" (rLst (rDk rTx rBl))) v_self, .no, .no]) () (by walk_at "lw") cnG_po (xi_rng (xlenL (xfld (xvb 0) B.cl_Book.cl B.cl_Book.no) B.z_len) B.z_range) (xg_name 1) (fun _ x1 => [sB (rI1 (xt.cls 100) "rules" (rLst (rDk rTx rBl))) v_self, sF rInt x1, .no]) (fun _ _ => rfl) (fun _ x1 =>
(xy_for (T := Unit) (m_Book_entries_s2 v_self x1) (fun _ => [sB (rI1 (xt.cls 100) "rules" (rLst (rDk rTx rBl))) v_self, sF rInt x1, .no]) () (by walk_at "lw") cnG_po (xi_list (xfz (xcall C_all_states G_all_states hr (xa_cons (xlenL (xfld (xvb 0) B.cl_Book.cl B.cl_Book.no) B.z_len) xa_nil)))) (xg_name 2) (fun _ x2 => [sB (rI1 (xt.cls 100) "rules" (rLst (rDk rTx rBl))) v_self, sF rInt x1, sF rTx x2]) (fun _ _ => rfl) (fun _ x2 =>
(xy_if (S := Unit) (slj := fun _ => [sB (rI1 (xt.cls 100) "rules" (rLst (rDk rTx rBl))) v_self, sF rInt x1, sF rTx x2]) (fun zs => R.iff (zs.length < 16777216) ((R.ok ((), (zs ++ [(x1, x2)])) : R Er (Unit × List (Int × (List Nat)))))) (fun zs => R.ok ((), zs)) (xqc (xdin hr (xv 2) (xixL (xfld (xvb 0) B.cl_Book.cl B.cl_Book.no) (xv 1)))) (xy_yield (xpr (xv 1) (xv 2)) (xy_nil () (by walk_at "lw"))) (xy_nil () (by walk_at "lw")) (fun k zs => by first | rfl | (simp only [R.bindOk, R.bindEr, R.bindNo, R.thnOk, R.thnEr, R.thnNo, R.thn_id, R.bind_bind, R.thn_bind, R.bind_ok, R.cond_ok, R.noerOk, R.bind_thn, R.thn_thn, cond_true, cond_false]; done) | (unfold R.iff; split <;> first | rfl | (simp only [R.bindOk, R.bindEr, R.bindNo, R.thnOk, R.thnEr, R.thnNo, R.thn_id, R.bind_bind, R.thn_bind, R.bind_ok, R.cond_ok, R.noerOk, R.bind_thn, R.thn_thn, cond_true, cond_false]; done))) (fun _ _ => rfl) (fun _ =>
(xy_nil () (by walk_at "lw"))))) (fun _ x2 k zs => by unfold m_Book_entries_s2; first | rfl | (simp only [R.bindOk, R.bindEr, R.bindNo, R.thnOk, R.thnEr, R.thnNo, R.thn_id, R.bind_bind, R.thn_bind, R.bind_ok, R.cond_ok, R.noerOk, R.bind_thn, R.thn_thn, cond_true, cond_false]; done) | (unfold R.iff; split <;> first | rfl | (simp only [R.bindOk, R.bindEr, R.bindNo, R.thnOk, R.thnEr, R.thnNo, R.thn_id, R.bind_bind, R.thn_bind, R.bind_ok, R.cond_ok, R.noerOk, R.bind_thn, R.thn_thn, cond_true, cond_false]; done))) (fun _ =>
(xy_nil () (by walk_at "lw"))))) (fun _ x1 k zs => by unfold m_Book_entries_s1; first | rfl | (simp only [R.bindOk, R.bindEr, R.bindNo, R.thnOk, R.thnEr, R.thnNo, R.thn_id, R.bind_bind, R.thn_bind, R.bind_ok, R.cond_ok, R.noerOk, R.bind_thn, R.thn_thn, cond_true, cond_false]; done) | (unfold R.iff; split <;> first | rfl | (simp only [R.bindOk, R.bindEr, R.bindNo, R.thnOk, R.thnEr, R.thnNo, R.thn_id, R.bind_bind, R.thn_bind, R.bind_ok, R.cond_ok, R.noerOk, R.bind_thn, R.thn_thn, cond_true, cond_false]; done))) (fun _ =>
(xy_nil () (by walk_at "lw")))), fun zs => ?_⟩
  all_goals (show _ = m_Book_entries_z zs v_self; unfold m_Book_entries_z; first | (simp only [R.bindOk, R.bindEr, R.bindNo, R.thnOk, R.thnEr, R.thnNo, R.thn_id, R.bind_bind, R.thn_bind, R.bind_ok, R.cond_ok, R.noerOk, R.bind_thn, R.thn_thn, cond_true, cond_false]; done) | rfl)
abbrev st_m_law_cell : Stmt := top 34
theorem sc_m_law_cell : FnScope ["_law_script", "_law_k"] ["_law_script", "_law_k"] (defScope st_m_law_cell) := ⟨rfl, rfl, rfl, by decide +kernel, rfl, by decide +kernel, by decide +kernel⟩
set_option maxHeartbeats 4000000 in
theorem ok_m_law_cell (B : Bt P w K mg xt) {fa : Addr} {fd : FuncData} (Fn : Fun K "_law_cell" "_law_cell" st_m_law_cell fa fd) : FnOk P w K mg base (L2.CX P w) 1 fa fd ["_law_script", "_law_k"] (spR xt (Pt.cons .bo (rScr K) inferInstance (Pt.cons .sh rInt inferInstance Pt.nil)) (fun (a : ((List Int) × Int × Unit)) => m_law_cell a.1 a.2.1) (fun b => sF rInt b)) := by
  refine ok_R (S' := Unit) 0 Fn sc_m_law_cell rfl rfl (fun _ => .no) (fun _ _ h => nomatch h) (fun _ _ h => nomatch h) (fun cdv A outer s0 H E0_ hr a => ?_)
  obtain ⟨v_law_script, v_law_k, ⟨⟩⟩ := a
  refine ⟨fun _ => List.replicate 2 .no, _, (xb_if (S := Unit) (slj := (fun s1 => [sB (rScr K) v_law_script, sF rInt v_law_k])) () (lw_nos rfl) (xqc (xlt (xv 1) (xlenS (xvb 0) B.z_len)))
(xb_ret () (lw_nos rfl) (fun a => a) (fun _ => rfl) (xn (xixS (xvb 0) (xv 1))))
(xb_nil () (by walk_at "lw")) (fun s1 =>
(xb_ret () (lw_nos rfl) (fun a => a) (fun _ => rfl) (xn xint)))), ?_⟩
  all_goals (show _ = m_law_cell v_law_script v_law_k; unfold m_law_cell; first | (simp only [R.bindOk, R.bindEr, R.bindNo, R.thnOk, R.thnEr, R.thnNo, R.thn_id, R.bind_bind, R.thn_bind, R.bind_ok, R.cond_ok, R.noerOk, R.bind_thn, R.thn_thn, cond_true, cond_false]; done) | rfl)
abbrev st_m_law_numbers : Stmt := top 35
theorem sc_m_law_numbers : FnScope ["_law_cell_here", "_law_many", "_law_limit", "_law_left", "_law_mixed", "_law_row", "_law_k"] ["_law_cell_here", "_law_many", "_law_limit"] (defScope st_m_law_numbers) := ⟨rfl, rfl, rfl, by decide +kernel, rfl, by decide +kernel, by decide +kernel⟩
set_option maxHeartbeats 4000000 in
theorem ok_m_law_numbers (B : Bt P w K mg xt) {fa : Addr} {fd : FuncData} (Fn : Fun K "_law_numbers" "_law_numbers" st_m_law_numbers fa fd) : FnOk P w K mg base (L2.CX P w) 1 fa fd ["_law_cell_here", "_law_many", "_law_limit"] (spR xt (Pt.cons .sh rInt inferInstance (Pt.cons .sh rInt inferInstance (Pt.cons .sh rInt inferInstance Pt.nil))) (fun (a : (Int × Int × Int × Unit)) => m_law_numbers a.1 a.2.1 a.2.2.1) (fun b => sL rInt b)) := by
  refine ok_R (S' := Unit) 4 Fn sc_m_law_numbers rfl rfl (fun _ => .no) (fun _ _ h => nomatch h) (fun _ _ h => nomatch h) (fun cdv A outer s0 H E0_ hr a => ?_)
  obtain ⟨v_law_cell_here, v_law_many, v_law_limit, ⟨⟩⟩ := a
  refine ⟨fun _ => List.replicate 7 .no, _, (xb_set 3 (fun v_law_left1 => [sF rInt v_law_cell_here, sF rInt v_law_many, sF rInt v_law_limit, sF rInt v_law_left1, .no, .no, .no]) () (lw_nos rfl) (xn xint) (fun _ => rfl) (fun v_law_left1 =>
(xb_ifv (S := Int) (slj := (fun s1 => [sF rInt v_law_cell_here, sF rInt v_law_many, sF rInt v_law_limit, sF rInt s1, .no, .no, .no])) () (((((powR (10 : Int) (18 : Int))).bind fun y2 => R.ok (v_law_cell_here - y2))).bind fun v_law_left3 =>
(R.ok v_law_left3)) ((R.ok v_law_left1)) (lw_nos rfl) (xqc (xge (xv 0) (xpow xint xint)))
(xb_set 3 (fun v_law_left3 => [sF rInt v_law_cell_here, sF rInt v_law_many, sF rInt v_law_limit, sF rInt v_law_left3, .no, .no, .no]) () (lw_nos rfl) (xn (xsub (xv 0) (xpow xint xint))) (fun _ => rfl) (fun v_law_left3 =>
(xb_nil v_law_left3 (by walk_at "lw"))))
(xb_nil v_law_left1 (by walk_at "lw")) (fun k => by first | (simp only [R.bindOk, R.bindEr, R.bindNo, R.thnOk, R.thnEr, R.thnNo, R.thn_id, R.bind_bind, R.thn_bind, R.bind_ok, R.cond_ok, R.noerOk, R.bind_thn, R.thn_thn, cond_true, cond_false]; done) | rfl) (fun k => by first | (simp only [R.bindOk, R.bindEr, R.bindNo, R.thnOk, R.thnEr, R.thnNo, R.thn_id, R.bind_bind, R.thn_bind, R.bind_ok, R.cond_ok, R.noerOk, R.bind_thn, R.thn_thn, cond_true, cond_false]; done) | rfl) (fun s1 =>
(xb_set 4 (fun v_law_mixed1 => [sF rInt v_law_cell_here, sF rInt v_law_many, sF rInt v_law_limit, sF rInt s1, sF rInt v_law_mixed1, .no, .no]) () (lw_nos rfl) (xn (xmod (xintI (xv 0) B.z_int) xint)) (fun _ => rfl) (fun v_law_mixed1 =>
(xb_set 5 (fun v_law_row1 => [sF rInt v_law_cell_here, sF rInt v_law_many, sF rInt v_law_limit, sF rInt s1, sF rInt v_law_mixed1, sL rInt v_law_row1, .no]) () (lw_nos rfl) (xn_nil (r := rInt)) (fun _ => rfl) (fun v_law_row1 =>
(xb_forv (T := (Int × (List Int) × Int)) (m_law_numbers_s1 v_law_limit) (fun t1 => [sF rInt v_law_cell_here, sF rInt v_law_many, sF rInt v_law_limit, sF rInt t1.2.2, sF rInt t1.1, sL rInt t1.2.1, .no]) (v_law_mixed1, v_law_row1, s1) () (lw_nos rfl) (by walk_at "lw") cnD_po (xi_rng (xv 1) B.z_range) (xg_name 6) (fun t1 x1 => [sF rInt v_law_cell_here, sF rInt v_law_many, sF rInt v_law_limit, sF rInt t1.2.2, sF rInt t1.1, sL rInt t1.2.1, sF rInt x1]) (fun _ _ => rfl) (fun t1 x1 => XB.cast
(xb_set 4 (fun v_law_mixed3 => [sF rInt v_law_cell_here, sF rInt v_law_many, sF rInt v_law_limit, sF rInt t1.2.2, sF rInt v_law_mixed3, sL rInt t1.2.1, sF rInt x1]) () (lw_nos rfl) (xn (xmod (xintI (xadd (xadd (xmul (xv 4) xint) (xmul xint (xv 6))) xint) B.z_int) xint)) (fun _ => rfl) (fun v_law_mixed3 =>
(xb_ifv (S := ((List Int) × Int)) (slj := (fun s2 => [sF rInt v_law_cell_here, sF rInt v_law_many, sF rInt v_law_limit, sF rInt s2.2, sF rInt v_law_mixed3, sL rInt s2.1, sF rInt x1])) () (((modR t1.2.2 v_law_limit)).bind fun y8 =>
(appR t1.2.1 y8).bind fun v_law_row4 =>
((divR t1.2.2 v_law_limit)).bind fun v_law_left6 =>
(R.ok (v_law_row4, v_law_left6))) (((((divR v_law_mixed3 (1021 : Int))).bind fun y9 => (modR y9 v_law_limit))).bind fun y10 =>
(appR t1.2.1 y10).bind fun v_law_row5 =>
(R.ok (v_law_row5, t1.2.2))) (lw_nos rfl) (xqc (xgt (xv 3) xint))
(xb_app 5 (fun v_law_row4 => [sF rInt v_law_cell_here, sF rInt v_law_many, sF rInt v_law_limit, sF rInt t1.2.2, sF rInt v_law_mixed3, sL rInt v_law_row4, sF rInt x1]) () (lw_nos rfl) rfl (xmod (xintI (xv 3) B.z_int) (xv 2)) (fun _ => rfl) (fun v_law_row4 =>
(xb_set 3 (fun v_law_left6 => [sF rInt v_law_cell_here, sF rInt v_law_many, sF rInt v_law_limit, sF rInt v_law_left6, sF rInt v_law_mixed3, sL rInt v_law_row4, sF rInt x1]) () (lw_nos rfl) (xn (xdiv (xv 3) (xv 2))) (fun _ => rfl) (fun v_law_left6 =>
(xb_nil (v_law_row4, v_law_left6) (by walk_at "lw"))))))
(xb_app 5 (fun v_law_row5 => [sF rInt v_law_cell_here, sF rInt v_law_many, sF rInt v_law_limit, sF rInt t1.2.2, sF rInt v_law_mixed3, sL rInt v_law_row5, sF rInt x1]) () (lw_nos rfl) rfl (xmod (xdiv (xv 4) xint) (xv 2)) (fun _ => rfl) (fun v_law_row5 =>
(xb_nil (v_law_row5, t1.2.2) (by walk_at "lw")))) (fun k => by first | (simp only [R.bindOk, R.bindEr, R.bindNo, R.thnOk, R.thnEr, R.thnNo, R.thn_id, R.bind_bind, R.thn_bind, R.bind_ok, R.cond_ok, R.noerOk, R.bind_thn, R.thn_thn, cond_true, cond_false]; done) | rfl) (fun k => by first | (simp only [R.bindOk, R.bindEr, R.bindNo, R.thnOk, R.thnEr, R.thnNo, R.thn_id, R.bind_bind, R.thn_bind, R.bind_ok, R.cond_ok, R.noerOk, R.bind_thn, R.thn_thn, cond_true, cond_false]; done) | rfl) (fun s2 =>
(xb_nil (v_law_mixed3, s2.1, s2.2) (by walk_at "lw")))))) (fun k => by unfold m_law_numbers_s1; first | (simp only [R.bindOk, R.bindEr, R.bindNo, R.thnOk, R.thnEr, R.thnNo, R.thn_id, R.bind_bind, R.thn_bind, R.bind_ok, R.cond_ok, R.noerOk, R.bind_thn, R.thn_thn, cond_true, cond_false]; done) | rfl)) (fun t2 =>
(xb_retO 5 () rfl t2.2.1 rfl (lw_nos rfl)))))))))))), ?_⟩
  all_goals (show _ = m_law_numbers v_law_cell_here v_law_many v_law_limit; unfold m_law_numbers; first | (simp only [R.bindOk, R.bindEr, R.bindNo, R.thnOk, R.thnEr, R.thnNo, R.thn_id, R.bind_bind, R.thn_bind, R.bind_ok, R.cond_ok, R.noerOk, R.bind_thn, R.thn_thn, cond_true, cond_false]; done) | rfl)
abbrev st_same : Stmt := top 36
theorem sc_same : FnScope ["_law_actual", "_law_due", "_law_k"] ["_law_actual", "_law_due"] (defScope st_same) := ⟨rfl, rfl, rfl, by decide +kernel, rfl, by decide +kernel, by decide +kernel⟩
theorem ok_same0 (B : Bt P w K mg xt) {fa : Addr} {fd : FuncData} (Fn : Fun K "_law_same" "_law_same" st_same fa fd) : FnOk P w K mg base CX0 1 fa fd ["_law_actual", "_law_due"] (spSame 0) := by
  refine ok_V 1 Fn sc_same rfl rfl (fun cdv A outer s0 H E0_ hr => ⟨_, (pss_cons (ps_if (pt_cmp (pc_isN (pv 1)) rfl) (pss_one (ps_ret (pe_cmp (pc_isN (pv 0)) rfl))) pss_nil) (pss_cons (ps_if (pt_val (pe_callB call_isi (by rfl) B.z_isinstance boot_isinstance (pa_cons (pv 1) (pa_cons (pe_bltn (v := .ty "bool") (by rfl) B.z_bool PyProof.Rows.boot_bool rfl) pa_nil)))) (pss_one (ps_ret (pe_and (pe_callB call_isi (by rfl) B.z_isinstance boot_isinstance (pa_cons (pv 0) (pa_cons (pe_bltn (v := .ty "bool") (by rfl) B.z_bool PyProof.Rows.boot_bool rfl) pa_nil))) (pe_one (pe_cmpR op_eq (pv 0) (pv 1) (nomark _)))))) pss_nil) (pss_cons (ps_if (pt_val (pe_callB call_isi (by rfl) B.z_isinstance boot_isinstance (pa_cons (pv 1) (pa_cons (pe_bltn (v := .ty "int") (by rfl) B.z_int PyProof.Rows.boot_int rfl) pa_nil)))) (pss_one (ps_ret (pe_and (pe_callB call_isi (by rfl) B.z_isinstance boot_isinstance (pa_cons (pv 0) (pa_cons (pe_bltn (v := .ty "int") (by rfl) B.z_int PyProof.Rows.boot_int rfl) pa_nil))) (pe_and (pe_not (pe_callB call_isi (by rfl) B.z_isinstance boot_isinstance (pa_cons (pv 0) (pa_cons (pe_bltn (v := .ty "bool") (by rfl) B.z_bool PyProof.Rows.boot_bool rfl) pa_nil)))) (pe_one (pe_cmpR op_eq (pv 0) (pv 1) (nomark _))))))) pss_nil) (pss_cons (ps_if (pt_val (pe_callB call_isi (by rfl) B.z_isinstance boot_isinstance (pa_cons (pv 1) (pa_cons (pe_bltn (v := .ty "str") (by rfl) B.z_str PyProof.Rows.boot_str rfl) pa_nil)))) (pss_one (ps_ret (pe_and (pe_callB call_isi (by rfl) B.z_isinstance boot_isinstance (pa_cons (pv 0) (pa_cons (pe_bltn (v := .ty "str") (by rfl) B.z_str PyProof.Rows.boot_str rfl) pa_nil))) (pe_one (pe_cmpR op_eq (pv 0) (pv 1) (nomark _)))))) pss_nil) (pss_cons (ps_if (PW.pt (pw_and (pt_val (pe_callB call_isi (by rfl) B.z_isinstance boot_isinstance (pa_cons (pv 1) (pa_cons (pe_bltn (v := .ty "list") (by rfl) B.z_list PyProof.Rows.boot_list rfl) pa_nil)))) (pw_and1 (pt_not (pt_val (pe_callB call_isi (by rfl) B.z_isinstance boot_isinstance (pa_cons (pv 0) (pa_cons (pe_bltn (v := .ty "list") (by rfl) B.z_list PyProof.Rows.boot_list rfl) pa_nil)))))))) (pss_one (ps_ret pe_bl)) pss_nil) (pss_cons (ps_if (PW.pt (pw_and (pt_val (pe_callB call_isi (by rfl) B.z_isinstance boot_isinstance (pa_cons (pv 1) (pa_cons (pe_bltn (v := .ty "tuple") (by rfl) B.z_tuple PyProof.Rows.boot_tuple rfl) pa_nil)))) (pw_and1 (pt_not (pt_val (pe_callB call_isi (by rfl) B.z_isinstance boot_isinstance (pa_cons (pv 0) (pa_cons (pe_bltn (v := .ty "tuple") (by rfl) B.z_tuple PyProof.Rows.boot_tuple rfl) pa_nil)))))))) (pss_one (ps_ret pe_bl)) pss_nil) pss_never)))))), fun F a nx rt bk ct_ hp hq hnx => ?_⟩)
  obtain ⟨a, d, ⟨⟩⟩ := a
  have hp : d.dep ≤ 0 := hp
  refine gk_cast (G' := [.bw rDt inferInstance a, .bw rDt inferInstance d, .no]) rfl (same_lead (K := K) hq (fun h1 h2 _ => ?_))
  cases d <;> first | (simp only [Dt.dep] at hp; omega) | (cases h2)
theorem ok_sameS {n : Nat} (B : Bt P w K mg xt) {fa : Addr} {fd : FuncData} (Fn : Fun K "_law_same" "_law_same" st_same fa fd) (C : Cal K mg "_law_same" fa fd ["_law_actual", "_law_due"]) (G : FnOk P w K mg base CX0 (n + 1) fa fd ["_law_actual", "_law_due"] (spSame n)) : FnOk P w K mg base CX0 (n + 2) fa fd ["_law_actual", "_law_due"] (spSame (n + 1)) := by
  refine ok_V 1 Fn sc_same rfl rfl (fun cdv A outer s0 H E0_ hr => ⟨_, (pss_cons (ps_if (pt_cmp (pc_isN (pv 1)) rfl) (pss_one (ps_ret (pe_cmp (pc_isN (pv 0)) rfl))) pss_nil) (pss_cons (ps_if (pt_val (pe_callB call_isi (by rfl) B.z_isinstance boot_isinstance (pa_cons (pv 1) (pa_cons (pe_bltn (v := .ty "bool") (by rfl) B.z_bool PyProof.Rows.boot_bool rfl) pa_nil)))) (pss_one (ps_ret (pe_and (pe_callB call_isi (by rfl) B.z_isinstance boot_isinstance (pa_cons (pv 0) (pa_cons (pe_bltn (v := .ty "bool") (by rfl) B.z_bool PyProof.Rows.boot_bool rfl) pa_nil))) (pe_one (pe_cmpR op_eq (pv 0) (pv 1) (nomark _)))))) pss_nil) (pss_cons (ps_if (pt_val (pe_callB call_isi (by rfl) B.z_isinstance boot_isinstance (pa_cons (pv 1) (pa_cons (pe_bltn (v := .ty "int") (by rfl) B.z_int PyProof.Rows.boot_int rfl) pa_nil)))) (pss_one (ps_ret (pe_and (pe_callB call_isi (by rfl) B.z_isinstance boot_isinstance (pa_cons (pv 0) (pa_cons (pe_bltn (v := .ty "int") (by rfl) B.z_int PyProof.Rows.boot_int rfl) pa_nil))) (pe_and (pe_not (pe_callB call_isi (by rfl) B.z_isinstance boot_isinstance (pa_cons (pv 0) (pa_cons (pe_bltn (v := .ty "bool") (by rfl) B.z_bool PyProof.Rows.boot_bool rfl) pa_nil)))) (pe_one (pe_cmpR op_eq (pv 0) (pv 1) (nomark _))))))) pss_nil) (pss_cons (ps_if (pt_val (pe_callB call_isi (by rfl) B.z_isinstance boot_isinstance (pa_cons (pv 1) (pa_cons (pe_bltn (v := .ty "str") (by rfl) B.z_str PyProof.Rows.boot_str rfl) pa_nil)))) (pss_one (ps_ret (pe_and (pe_callB call_isi (by rfl) B.z_isinstance boot_isinstance (pa_cons (pv 0) (pa_cons (pe_bltn (v := .ty "str") (by rfl) B.z_str PyProof.Rows.boot_str rfl) pa_nil))) (pe_one (pe_cmpR op_eq (pv 0) (pv 1) (nomark _)))))) pss_nil) (pss_cons (ps_if (PW.pt (pw_and (pt_val (pe_callB call_isi (by rfl) B.z_isinstance boot_isinstance (pa_cons (pv 1) (pa_cons (pe_bltn (v := .ty "list") (by rfl) B.z_list PyProof.Rows.boot_list rfl) pa_nil)))) (pw_and1 (pt_not (pt_val (pe_callB call_isi (by rfl) B.z_isinstance boot_isinstance (pa_cons (pv 0) (pa_cons (pe_bltn (v := .ty "list") (by rfl) B.z_list PyProof.Rows.boot_list rfl) pa_nil)))))))) (pss_one (ps_ret pe_bl)) pss_nil) (pss_cons (ps_if (PW.pt (pw_and (pt_val (pe_callB call_isi (by rfl) B.z_isinstance boot_isinstance (pa_cons (pv 1) (pa_cons (pe_bltn (v := .ty "tuple") (by rfl) B.z_tuple PyProof.Rows.boot_tuple rfl) pa_nil)))) (pw_and1 (pt_not (pt_val (pe_callB call_isi (by rfl) B.z_isinstance boot_isinstance (pa_cons (pv 0) (pa_cons (pe_bltn (v := .ty "tuple") (by rfl) B.z_tuple PyProof.Rows.boot_tuple rfl) pa_nil)))))))) (pss_one (ps_ret pe_bl)) pss_nil) (pss_cons (ps_if (pt_cmpR op_ne (pe_callB call_len_seq (by rfl) B.z_len PySem.boot_len (pa_cons (pv 0) pa_nil)) (pe_callB call_len_seq (by rfl) B.z_len PySem.boot_len (pa_cons (pv 1) pa_nil)) (nomark _)) (pss_one (ps_ret pe_bl)) pss_nil) (pss_cons (ps_for PassesOwn.never rfl (pi_range1 (by rfl) B.z_range (pa_cons (pe_callB call_len_seq (by rfl) B.z_len PySem.boot_len (pa_cons (pv 1) pa_nil)) pa_nil)) (pg_name (i := 2) sc_same.nd rfl (.inl rfl)) (pss_one (ps_if (pt_not (pt_val (w_call C G (hr) (pa_cons (pe_ix ix_seq (pv 0) (pv 2) (fun _ _ => rfl)) (pa_cons (pe_ix ix_seq (pv 1) (pv 2) (fun _ _ => rfl)) pa_nil))))) (pss_one (ps_ret pe_bl)) pss_nil))) (pss_one (ps_ret pe_bl)))))))))), fun F a nx rt bk ct_ hp hq hnx => ?_⟩)
  obtain ⟨a, d, ⟨⟩⟩ := a
  have hp : d.dep ≤ n + 1 := hp
  refine gk_cast (G' := [.bw rDt inferInstance a, .bw rDt inferInstance d, .no]) rfl (same_lead (K := K) hq (fun h1 h2 he => ?_))
  exact gk_sameR (K := K) hq h1 h2 he hp
theorem ok_same (B : Bt P w K mg xt) {fa : Addr} {fd : FuncData} (Fn : Fun K "_law_same" "_law_same" st_same fa fd) (C : Cal K mg "_law_same" fa fd ["_law_actual", "_law_due"]) : ∀ n : Nat, FnOk P w K mg base CX0 (n + 1) fa fd ["_law_actual", "_law_due"] (spSame n)
  | 0 => ok_same0 B Fn
  | n + 1 => ok_sameS B Fn C (ok_same B Fn C n)
abbrev st_m_law_states : Stmt := top 37
theorem sc_m_law_states : FnScope ["_law_size", "_law_rows", "_law_k", "_law_grown", "_law_row", "_law_sign"] ["_law_size"] (defScope st_m_law_states) := ⟨rfl, rfl, rfl, by decide +kernel, rfl, by decide +kernel, by decide +kernel⟩
set_option maxHeartbeats 4000000 in
theorem ok_m_law_states (B : Bt P w K mg xt) {fa : Addr} {fd : FuncData} (Fn : Fun K "_law_states" "_law_states" st_m_law_states fa fd) : FnOk P w K mg base (L2.CX P w) 1 fa fd ["_law_size"] (spR xt (Pt.cons .sh rInt inferInstance Pt.nil) (fun (a : (Int × Unit)) => m_law_states a.1) (fun b => sF (rLst rTx) b)) := by
  refine ok_R (S' := Unit) 5 Fn sc_m_law_states rfl rfl (fun _ => .no) (fun _ _ h => nomatch h) (fun _ _ h => nomatch h) (fun cdv A outer s0 H E0_ hr a => ?_)
  obtain ⟨v_law_size, ⟨⟩⟩ := a
  refine ⟨fun _ => List.replicate 6 .no, _, (xb_set 1 (fun v_law_rows1 => [sF rInt v_law_size, sF (rLst rTx) v_law_rows1, .no, .no, .no, .no]) () (lw_nos rfl) (xn (xfz (xn_lst (r := rTx) (xl_cons (xtx []) xl_nil)))) (fun _ => rfl) (fun v_law_rows1 =>
(xb_forv (T := (List (List Nat))) (m_law_states_s1) (fun t1 => [sF rInt v_law_size, sF (rLst rTx) t1, .no, .no, .no, .no]) v_law_rows1 () (lw_nos rfl) (by walk_at "lw") cnD_po (xi_rng (xv 0) B.z_range) (xg_name 2) (fun t1 x1 => [sF rInt v_law_size, sF (rLst rTx) t1, sF rInt x1, .no, .no, .no]) (fun _ _ => rfl) (fun t1 x1 => XB.cast
(xb_set 3 (fun v_law_grown1 => [sF rInt v_law_size, sF (rLst rTx) t1, sF rInt x1, sL rTx v_law_grown1, .no, .no]) () (lw_nos rfl) (xn_nil (r := rTx)) (fun _ => rfl) (fun v_law_grown1 =>
(xb_forv (T := (List (List Nat))) (m_law_states_s2) (fun t2 => [sF rInt v_law_size, sF (rLst rTx) t1, sF rInt x1, sL rTx t2, .no, .no]) v_law_grown1 () (lw_nos rfl) (by walk_at "lw") cnD_po (xi_list (xv 1)) (xg_name 4) (fun t2 x2 => [sF rInt v_law_size, sF (rLst rTx) t1, sF rInt x1, sL rTx t2, sF rTx x2, .no]) (fun _ _ => rfl) (fun t2 x2 => XB.cast
(xb_forv (T := (List (List Nat))) (m_law_states_s3 x2) (fun t3 => [sF rInt v_law_size, sF (rLst rTx) t1, sF rInt x1, sL rTx t3, sF rTx x2, .no]) t2 () (lw_nos rfl) (by walk_at "lw") cnD_po (xi_str (xtx [46, 104, 114])) (xg_name 5) (fun t3 x3 => [sF rInt v_law_size, sF (rLst rTx) t1, sF rInt x1, sL rTx t3, sF rTx x2, sF rTx x3]) (fun _ _ => rfl) (fun t3 x3 => XB.cast
(xb_app 3 (fun v_law_grown4 => [sF rInt v_law_size, sF (rLst rTx) t1, sF rInt x1, sL rTx v_law_grown4, sF rTx x2, sF rTx x3]) () (lw_nos rfl) rfl (xcat (xv 4) (xv 5)) (fun _ => rfl) (fun v_law_grown4 =>
(xb_nil v_law_grown4 (by walk_at "lw")))) (fun k => by unfold m_law_states_s3; first | (simp only [R.bindOk, R.bindEr, R.bindNo, R.thnOk, R.thnEr, R.thnNo, R.thn_id, R.bind_bind, R.thn_bind, R.bind_ok, R.cond_ok, R.noerOk, R.bind_thn, R.thn_thn, cond_true, cond_false]; done) | rfl)) (fun t4 =>
(xb_nil t4 (by walk_at "lw")))) (fun k => by unfold m_law_states_s2; first | (simp only [R.bindOk, R.bindEr, R.bindNo, R.thnOk, R.thnEr, R.thnNo, R.thn_id, R.bind_bind, R.thn_bind, R.bind_ok, R.cond_ok, R.noerOk, R.bind_thn, R.thn_thn, cond_true, cond_false]; done) | rfl)) (fun t5 =>
(xb_fz 3 [sF rInt v_law_size, sF (rLst rTx) t1, sF rInt x1, sF (rLst rTx) t5, .no, .no] rfl rfl (xb_set 1 (fun v_law_rows3 => [sF rInt v_law_size, sF (rLst rTx) v_law_rows3, sF rInt x1, sF (rLst rTx) t5, .no, .no]) () (lw_nos rfl) (xn (xv 3)) (fun _ => rfl) (fun v_law_rows3 =>
(xb_nil v_law_rows3 (by walk_at "lw"))))))))) (fun k => by unfold m_law_states_s1; first | (simp only [R.bindOk, R.bindEr, R.bindNo, R.thnOk, R.thnEr, R.thnNo, R.thn_id, R.bind_bind, R.thn_bind, R.bind_ok, R.cond_ok, R.noerOk, R.bind_thn, R.thn_thn, cond_true, cond_false]; done) | rfl)) (fun t6 =>
(xb_ret () (lw_nos rfl) (fun a => a) (fun _ => rfl) (xn (xv 1))))))), ?_⟩
  all_goals (show _ = m_law_states v_law_size; unfold m_law_states; first | (simp only [R.bindOk, R.bindEr, R.bindNo, R.thnOk, R.thnEr, R.thnNo, R.thn_id, R.bind_bind, R.thn_bind, R.bind_ok, R.cond_ok, R.noerOk, R.bind_thn, R.thn_thn, cond_true, cond_false]; done) | rfl)
abbrev st_m_law_chance : Stmt := top 38
theorem sc_m_law_chance : FnScope ["_law_mode", "_law_state", "_law_many"] ["_law_mode", "_law_state"] (defScope st_m_law_chance) := ⟨rfl, rfl, rfl, by decide +kernel, rfl, by decide +kernel, by decide +kernel⟩
set_option maxHeartbeats 4000000 in
theorem ok_m_law_chance (B : Bt P w K mg xt) {fa : Addr} {fd : FuncData} (Fn : Fun K "_law_chance" "_law_chance" st_m_law_chance fa fd) : FnOk P w K mg base (L2.CX P w) 1 fa fd ["_law_mode", "_law_state"] (spR xt (Pt.cons .sh rInt inferInstance (Pt.cons .sh rTx inferInstance Pt.nil)) (fun (a : (Int × (List Nat) × Unit)) => m_law_chance a.1 a.2.1) (fun b => sF rInt b)) := by
  refine ok_R (S' := Unit) 1 Fn sc_m_law_chance rfl rfl (fun _ => .no) (fun _ _ h => nomatch h) (fun _ _ h => nomatch h) (fun cdv A outer s0 H E0_ hr a => ?_)
  obtain ⟨v_law_mode, v_law_state, ⟨⟩⟩ := a
  refine ⟨fun _ => List.replicate 3 .no, _, (xb_set 2 (fun v_law_many1 => [sF rInt v_law_mode, sF rTx v_law_state, sF rInt v_law_many1]) () (lw_nos rfl) (xn (xsub (xlenT (xv 1) B.z_len) (xcntT (xv 1) (xtx [46])))) (fun _ => rfl) (fun v_law_many1 =>
(xb_if (S := Unit) (slj := (fun s1 => [sF rInt v_law_mode, sF rTx v_law_state, sF rInt v_law_many1])) () (lw_nos rfl) (xqc (xeq (xv 2) xint))
(xb_ret () (lw_nos rfl) (fun a => a) (fun _ => rfl) (xn xint))
(xb_nil () (by walk_at "lw")) (fun s1 =>
(xb_if (S := Unit) (slj := (fun s2 => [sF rInt v_law_mode, sF rTx v_law_state, sF rInt v_law_many1])) () (lw_nos rfl) (xqc (xeq (xv 0) xint))
(xb_ret () (lw_nos rfl) (fun a => a) (fun _ => rfl) (xn xint))
(xb_nil () (by walk_at "lw")) (fun s2 =>
(xb_if (S := Unit) (slj := (fun s3 => [sF rInt v_law_mode, sF rTx v_law_state, sF rInt v_law_many1])) () (lw_nos rfl) (xqc (xeq (xv 0) xint))
(xb_ret () (lw_nos rfl) (fun a => a) (fun _ => rfl) (xn (xmul xint (xintB (xcv (xniT (xtx [114]) (xv 1))) B.z_int))))
(xb_nil () (by walk_at "lw")) (fun s3 =>
(xb_if (S := Unit) (slj := (fun s4 => [sF rInt v_law_mode, sF rTx v_law_state, sF rInt v_law_many1])) () (lw_nos rfl) (xqw (xqand (xqc (xeq (xv 0) xint)) (xqand (xqc (xeq (xcntT (xv 1) (xtx [104])) xint)) (xqand1 (xqc (xlt (xv 2) xint))))))
(xb_ret () (lw_nos rfl) (fun a => a) (fun _ => rfl) (xn (xixL (xfz (xn_lst (r := rInt) (xl_cons xint (xl_cons xint xl_nil)))) (xsub (xv 2) xint))))
(xb_nil () (by walk_at "lw")) (fun s4 =>
(xb_if (S := Unit) (slj := (fun s5 => [sF rInt v_law_mode, sF rTx v_law_state, sF rInt v_law_many1])) () (lw_nos rfl) (xqc (xeq (xv 0) xint))
(xb_ret () (lw_nos rfl) (fun a => a) (fun _ => rfl) (xn xint))
(xb_nil () (by walk_at "lw")) (fun s5 =>
(xb_ret () (lw_nos rfl) (fun a => a) (fun _ => rfl) (xn xint)))))))))))))), ?_⟩
  all_goals (show _ = m_law_chance v_law_mode v_law_state; unfold m_law_chance; first | (simp only [R.bindOk, R.bindEr, R.bindNo, R.thnOk, R.thnEr, R.thnNo, R.thn_id, R.bind_bind, R.thn_bind, R.bind_ok, R.cond_ok, R.noerOk, R.bind_thn, R.thn_thn, cond_true, cond_false]; done) | rfl)
abbrev st_m_law_key : Stmt := top 39
theorem sc_m_law_key : FnScope ["_law_mode", "_law_state"] ["_law_mode", "_law_state"] (defScope st_m_law_key) := ⟨rfl, rfl, rfl, by decide +kernel, rfl, by decide +kernel, by decide +kernel⟩
set_option maxHeartbeats 4000000 in
theorem ok_m_law_key (B : Bt P w K mg xt) {fa : Addr} {fd : FuncData} (Fn : Fun K "_law_key" "_law_key" st_m_law_key fa fd) : FnOk P w K mg base (L2.CX P w) 1 fa fd ["_law_mode", "_law_state"] (spR xt (Pt.cons .sh rInt inferInstance (Pt.cons .sh rTx inferInstance Pt.nil)) (fun (a : (Int × (List Nat) × Unit)) => m_law_key a.1 a.2.1) (fun b => sF rTx b)) := by
  refine ok_R (S' := Unit) 0 Fn sc_m_law_key rfl rfl (fun _ => .no) (fun _ _ h => nomatch h) (fun _ _ h => nomatch h) (fun cdv A outer s0 H E0_ hr a => ?_)
  obtain ⟨v_law_mode, v_law_state, ⟨⟩⟩ := a
  refine ⟨fun _ => List.replicate 2 .no, _, (xb_if (S := Unit) (slj := (fun s1 => [sF rInt v_law_mode, sF rTx v_law_state])) () (lw_nos rfl) (xqw (xqor (xqc (xne (xv 0) xint)) (xqor1 (xqc (xniT (xtx [114]) (xv 1))))))
(xb_ret () (lw_nos rfl) (fun a => a) (fun _ => rfl) (xn (xv 1)))
(xb_nil () (by walk_at "lw")) (fun s1 =>
(xb_ifRepl (i := 1) 104 114 46 (fun a => a) () (lw_nos rfl) (fun _ => rfl) rfl
(xb_ret () (lw_nos rfl) (fun a => a) (fun _ => rfl) (xn (xrep (xtx [114]) (xlenT (xv 1) B.z_len))))))), ?_⟩
  all_goals (show _ = m_law_key v_law_mode v_law_state; unfold m_law_key; first | (simp only [R.bindOk, R.bindEr, R.bindNo, R.thnOk, R.thnEr, R.thnNo, R.thn_id, R.bind_bind, R.thn_bind, R.bind_ok, R.cond_ok, R.noerOk, R.bind_thn, R.thn_thn, cond_true, cond_false]; done) | rfl)
abbrev st_m_law_rules : Stmt := top 40
theorem sc_m_law_rules : FnScope ["_law_cell_here", "_law_size", "_law_mode", "_law_states_here", "_law_numbers_here", "_law_place", "_law_k", "_law_rules_here", "_law_item", "_law_row", "_law_state", "_law_number"] ["_law_cell_here", "_law_size", "_law_mode"] (defScope st_m_law_rules) := ⟨rfl, rfl, rfl, by decide +kernel, rfl, by decide +kernel, by decide +kernel⟩
set_option maxHeartbeats 4000000 in
theorem ok_m_law_rules (B : Bt P w K mg xt) {fa : Addr} {fd : FuncData} (Fn : Fun K "_law_rules" "_law_rules" st_m_law_rules fa fd) {a__law_states : Addr} {d__law_states : FuncData} (C__law_states : Cal K mg "_law_states" a__law_states d__law_states ["_law_size"]) (G__law_states : FnOk P w K mg base (L2.CX P w) 1 a__law_states d__law_states ["_law_size"] (spR xt (Pt.cons .sh rInt inferInstance Pt.nil) (fun (a : (Int × Unit)) => m_law_states a.1) (fun b => sF (rLst rTx) b))) {a__law_numbers : Addr} {d__law_numbers : FuncData} (C__law_numbers : Cal K mg "_law_numbers" a__law_numbers d__law_numbers ["_law_cell_here", "_law_many", "_law_limit"]) (G__law_numbers : FnOk P w K mg base (L2.CX P w) 1 a__law_numbers d__law_numbers ["_law_cell_here", "_law_many", "_law_limit"] (spR xt (Pt.cons .sh rInt inferInstance (Pt.cons .sh rInt inferInstance (Pt.cons .sh rInt inferInstance Pt.nil))) (fun (a : (Int × Int × Int × Unit)) => m_law_numbers a.1 a.2.1 a.2.2.1) (fun b => sL rInt b))) {a__law_key : Addr} {d__law_key : FuncData} (C__law_key : Cal K mg "_law_key" a__law_key d__law_key ["_law_mode", "_law_state"]) (G__law_key : FnOk P w K mg base (L2.CX P w) 1 a__law_key d__law_key ["_law_mode", "_law_state"] (spR xt (Pt.cons .sh rInt inferInstance (Pt.cons .sh rTx inferInstance Pt.nil)) (fun (a : (Int × (List Nat) × Unit)) => m_law_key a.1 a.2.1) (fun b => sF rTx b))) {a__law_chance : Addr} {d__law_chance : FuncData} (C__law_chance : Cal K mg "_law_chance" a__law_chance d__law_chance ["_law_mode", "_law_state"]) (G__law_chance : FnOk P w K mg base (L2.CX P w) 1 a__law_chance d__law_chance ["_law_mode", "_law_state"] (spR xt (Pt.cons .sh rInt inferInstance (Pt.cons .sh rTx inferInstance Pt.nil)) (fun (a : (Int × (List Nat) × Unit)) => m_law_chance a.1 a.2.1) (fun b => sF rInt b))) : FnOk P w K mg base (L2.CX P w) 2 fa fd ["_law_cell_here", "_law_size", "_law_mode"] (spR xt (Pt.cons .sh rInt inferInstance (Pt.cons .sh rInt inferInstance (Pt.cons .sh rInt inferInstance Pt.nil))) (fun (a : (Int × Int × Int × Unit)) => m_law_rules a.1 a.2.1 a.2.2.1) (fun b => sL (rLst rTx) b)) := by
  refine ok_R (S' := Unit) 9 Fn sc_m_law_rules rfl rfl (fun _ => .no) (fun _ _ h => nomatch h) (fun _ _ h => nomatch h) (fun cdv A outer s0 H E0_ hr a => ?_)
  obtain ⟨v_law_cell_here, v_law_size, v_law_mode, ⟨⟩⟩ := a
  refine ⟨fun _ => List.replicate 12 .no, _, (xb_set 3 (fun v_law_states_here1 => [sF rInt v_law_cell_here, sF rInt v_law_size, sF rInt v_law_mode, sF (rLst rTx) v_law_states_here1, .no, .no, .no, .no, .no, .no, .no, .no]) () (lw_nos rfl) (xn (xsh (xcall C__law_states G__law_states hr (xa_cons (xv 1) xa_nil)))) (fun _ => rfl) (fun v_law_states_here1 =>
(xb_set 4 (fun v_law_numbers_here1 => [sF rInt v_law_cell_here, sF rInt v_law_size, sF rInt v_law_mode, sF (rLst rTx) v_law_states_here1, sF (rLst rInt) v_law_numbers_here1, .no, .no, .no, .no, .no, .no, .no]) () (lw_nos rfl) (xn (xfz (xcall C__law_numbers G__law_numbers hr (xa_cons (xv 0) (xa_cons (xmul (xv 1) (xlenL (xv 3) B.z_len)) (xa_cons xint xa_nil)))))) (fun _ => rfl) (fun v_law_numbers_here1 =>
(xb_set 5 (fun v_law_place1 => [sF rInt v_law_cell_here, sF rInt v_law_size, sF rInt v_law_mode, sF (rLst rTx) v_law_states_here1, sF (rLst rInt) v_law_numbers_here1, sD rTx rInt v_law_place1, .no, .no, .no, .no, .no, .no]) () (lw_nos rfl) (xn_dnil (rk := rTx) (rv := rInt)) (fun _ => rfl) (fun v_law_place1 =>
(xb_forv (T := (List ((List Nat) × Int))) (m_law_rules_s1 v_law_states_here1) (fun t1 => [sF rInt v_law_cell_here, sF rInt v_law_size, sF rInt v_law_mode, sF (rLst rTx) v_law_states_here1, sF (rLst rInt) v_law_numbers_here1, sD rTx rInt t1, .no, .no, .no, .no, .no, .no]) v_law_place1 () (lw_nos rfl) (by walk_at "lw") cnD_po (xi_rng (xlenL (xv 3) B.z_len) B.z_range) (xg_name 6) (fun t1 x1 => [sF rInt v_law_cell_here, sF rInt v_law_size, sF rInt v_law_mode, sF (rLst rTx) v_law_states_here1, sF (rLst rInt) v_law_numbers_here1, sD rTx rInt t1, sF rInt x1, .no, .no, .no, .no, .no]) (fun _ _ => rfl) (fun t1 x1 => XB.cast
(xb_dput 5 (fun v_law_place3 => [sF rInt v_law_cell_here, sF rInt v_law_size, sF rInt v_law_mode, sF (rLst rTx) v_law_states_here1, sF (rLst rInt) v_law_numbers_here1, sD rTx rInt v_law_place3, sF rInt x1, .no, .no, .no, .no, .no]) () (lw_nos rfl) rfl hr (xv 6) (xixL (xv 3) (xv 6)) (fun _ => rfl) (fun v_law_place3 =>
(xb_nil v_law_place3 (by walk_at "lw")))) (fun k => by unfold m_law_rules_s1; first | (simp only [R.bindOk, R.bindEr, R.bindNo, R.thnOk, R.thnEr, R.thnNo, R.thn_id, R.bind_bind, R.thn_bind, R.bind_ok, R.cond_ok, R.noerOk, R.bind_thn, R.thn_thn, cond_true, cond_false]; done) | rfl)) (fun t2 =>
(xb_set 7 (fun v_law_rules_here1 => [sF rInt v_law_cell_here, sF rInt v_law_size, sF rInt v_law_mode, sF (rLst rTx) v_law_states_here1, sF (rLst rInt) v_law_numbers_here1, sD rTx rInt t2, .no, sL (rLst rTx) v_law_rules_here1, .no, .no, .no, .no]) () (lw_nos rfl) (xn_nil (r := (rLst rTx))) (fun _ => rfl) (fun v_law_rules_here1 =>
(xb_forv (T := (List (List (List Nat)))) (m_law_rules_s2 v_law_mode v_law_states_here1 v_law_numbers_here1 t2) (fun t3 => [sF rInt v_law_cell_here, sF rInt v_law_size, sF rInt v_law_mode, sF (rLst rTx) v_law_states_here1, sF (rLst rInt) v_law_numbers_here1, sD rTx rInt t2, .no, sL (rLst rTx) t3, .no, .no, .no, .no]) v_law_rules_here1 () (lw_nos rfl) (by walk_at "lw") cnD_po (xi_rng (xv 1) B.z_range) (xg_name 8) (fun t3 x2 => [sF rInt v_law_cell_here, sF rInt v_law_size, sF rInt v_law_mode, sF (rLst rTx) v_law_states_here1, sF (rLst rInt) v_law_numbers_here1, sD rTx rInt t2, .no, sL (rLst rTx) t3, sF rInt x2, .no, .no, .no]) (fun _ _ => rfl) (fun t3 x2 => XB.cast
(xb_set 9 (fun v_law_row1 => [sF rInt v_law_cell_here, sF rInt v_law_size, sF rInt v_law_mode, sF (rLst rTx) v_law_states_here1, sF (rLst rInt) v_law_numbers_here1, sD rTx rInt t2, .no, sL (rLst rTx) t3, sF rInt x2, sL rTx v_law_row1, .no, .no]) () (lw_nos rfl) (xn_nil (r := rTx)) (fun _ => rfl) (fun v_law_row1 =>
(xb_forv (T := (List (List Nat))) (m_law_rules_s3 v_law_mode v_law_states_here1 v_law_numbers_here1 t2 x2) (fun t4 => [sF rInt v_law_cell_here, sF rInt v_law_size, sF rInt v_law_mode, sF (rLst rTx) v_law_states_here1, sF (rLst rInt) v_law_numbers_here1, sD rTx rInt t2, .no, sL (rLst rTx) t3, sF rInt x2, sL rTx t4, .no, .no]) v_law_row1 () (lw_nos rfl) (by walk_at "lw") cnD_po (xi_list (xv 3)) (xg_name 10) (fun t4 x3 => [sF rInt v_law_cell_here, sF rInt v_law_size, sF rInt v_law_mode, sF (rLst rTx) v_law_states_here1, sF (rLst rInt) v_law_numbers_here1, sD rTx rInt t2, .no, sL (rLst rTx) t3, sF rInt x2, sL rTx t4, sF rTx x3, .no]) (fun _ _ => rfl) (fun t4 x3 => XB.cast
(xb_set 11 (fun v_law_number1 => [sF rInt v_law_cell_here, sF rInt v_law_size, sF rInt v_law_mode, sF (rLst rTx) v_law_states_here1, sF (rLst rInt) v_law_numbers_here1, sD rTx rInt t2, .no, sL (rLst rTx) t3, sF rInt x2, sL rTx t4, sF rTx x3, sF rInt v_law_number1]) () (lw_nos rfl) (xn (xixL (xv 4) (xadd (xmul (xv 8) (xlenL (xv 3) B.z_len)) (xdget hr (xvd 5) (xsh (xcall C__law_key G__law_key hr (xa_cons (xv 2) (xa_cons (xv 10) xa_nil)))))))) (fun _ => rfl) (fun v_law_number1 =>
(xb_ifv (S := (List (List Nat))) (slj := (fun s1 => [sF rInt v_law_cell_here, sF rInt v_law_size, sF rInt v_law_mode, sF (rLst rTx) v_law_states_here1, sF (rLst rInt) v_law_numbers_here1, sD rTx rInt t2, .no, sL (rLst rTx) t3, sF rInt x2, sL rTx s1, sF rTx x3, sF rInt v_law_number1])) () ((appR t4 x3).bind fun v_law_row4 =>
(R.ok v_law_row4)) ((R.ok t4)) (lw_nos rfl) (xqw (xqand (xqc (xeq (xixT (xv 10) (xv 8)) (xtx [46]))) (xqand1 (xqc (xlt (xv 11) (xsh (xcall C__law_chance G__law_chance hr (xa_cons (xv 2) (xa_cons (xv 10) xa_nil)))))))))
(xb_app 9 (fun v_law_row4 => [sF rInt v_law_cell_here, sF rInt v_law_size, sF rInt v_law_mode, sF (rLst rTx) v_law_states_here1, sF (rLst rInt) v_law_numbers_here1, sD rTx rInt t2, .no, sL (rLst rTx) t3, sF rInt x2, sL rTx v_law_row4, sF rTx x3, sF rInt v_law_number1]) () (lw_nos rfl) rfl (xv 10) (fun _ => rfl) (fun v_law_row4 =>
(xb_nil v_law_row4 (by walk_at "lw"))))
(xb_nil t4 (by walk_at "lw")) (fun k => by first | (simp only [R.bindOk, R.bindEr, R.bindNo, R.thnOk, R.thnEr, R.thnNo, R.thn_id, R.bind_bind, R.thn_bind, R.bind_ok, R.cond_ok, R.noerOk, R.bind_thn, R.thn_thn, cond_true, cond_false]; done) | rfl) (fun k => by first | (simp only [R.bindOk, R.bindEr, R.bindNo, R.thnOk, R.thnEr, R.thnNo, R.thn_id, R.bind_bind, R.thn_bind, R.bind_ok, R.cond_ok, R.noerOk, R.bind_thn, R.thn_thn, cond_true, cond_false]; done) | rfl) (fun s1 =>
(xb_nil s1 (by walk_at "lw")))))) (fun k => by unfold m_law_rules_s3; first | (simp only [R.bindOk, R.bindEr, R.bindNo, R.thnOk, R.thnEr, R.thnNo, R.thn_id, R.bind_bind, R.thn_bind, R.bind_ok, R.cond_ok, R.noerOk, R.bind_thn, R.thn_thn, cond_true, cond_false]; done) | rfl)) (fun t5 =>
(xb_fz 9 [sF rInt v_law_cell_here, sF rInt v_law_size, sF rInt v_law_mode, sF (rLst rTx) v_law_states_here1, sF (rLst rInt) v_law_numbers_here1, sD rTx rInt t2, .no, sL (rLst rTx) t3, sF rInt x2, sF (rLst rTx) t5, .no, .no] rfl rfl (xb_app 7 (fun v_law_rules_here3 => [sF rInt v_law_cell_here, sF rInt v_law_size, sF rInt v_law_mode, sF (rLst rTx) v_law_states_here1, sF (rLst rInt) v_law_numbers_here1, sD rTx rInt t2, .no, sL (rLst rTx) v_law_rules_here3, sF rInt x2, sF (rLst rTx) t5, .no, .no]) () (lw_nos rfl) rfl (xv 9) (fun _ => rfl) (fun v_law_rules_here3 =>
(xb_nil v_law_rules_here3 (by walk_at "lw"))))))))) (fun k => by unfold m_law_rules_s2; first | (simp only [R.bindOk, R.bindEr, R.bindNo, R.thnOk, R.thnEr, R.thnNo, R.thn_id, R.bind_bind, R.thn_bind, R.bind_ok, R.cond_ok, R.noerOk, R.bind_thn, R.thn_thn, cond_true, cond_false]; done) | rfl)) (fun t6 =>
(xb_retO 7 () rfl t6 rfl (lw_nos rfl)))))))))))))), ?_⟩
  all_goals (show _ = m_law_rules v_law_cell_here v_law_size v_law_mode; unfold m_law_rules; first | (simp only [R.bindOk, R.bindEr, R.bindNo, R.thnOk, R.thnEr, R.thnNo, R.thn_id, R.bind_bind, R.thn_bind, R.bind_ok, R.cond_ok, R.noerOk, R.bind_thn, R.thn_thn, cond_true, cond_false]; done) | rfl)
abbrev st_m_law_thin : Stmt := top 41
theorem sc_m_law_thin : FnScope ["_law_cell_here", "_law_size", "_law_numbers_here", "_law_rules_here", "_law_item", "_law_row", "_law_one", "_law_two", "_law_signs", "_law_state", "_law_k"] ["_law_cell_here", "_law_size"] (defScope st_m_law_thin) := ⟨rfl, rfl, rfl, by decide +kernel, rfl, by decide +kernel, by decide +kernel⟩
set_option maxHeartbeats 4000000 in
theorem ok_m_law_thin (B : Bt P w K mg xt) {fa : Addr} {fd : FuncData} (Fn : Fun K "_law_thin" "_law_thin" st_m_law_thin fa fd) {a__law_numbers : Addr} {d__law_numbers : FuncData} (C__law_numbers : Cal K mg "_law_numbers" a__law_numbers d__law_numbers ["_law_cell_here", "_law_many", "_law_limit"]) (G__law_numbers : FnOk P w K mg base (L2.CX P w) 1 a__law_numbers d__law_numbers ["_law_cell_here", "_law_many", "_law_limit"] (spR xt (Pt.cons .sh rInt inferInstance (Pt.cons .sh rInt inferInstance (Pt.cons .sh rInt inferInstance Pt.nil))) (fun (a : (Int × Int × Int × Unit)) => m_law_numbers a.1 a.2.1 a.2.2.1) (fun b => sL rInt b))) : FnOk P w K mg base (L2.CX P w) 2 fa fd ["_law_cell_here", "_law_size"] (spR xt (Pt.cons .sh rInt inferInstance (Pt.cons .sh rInt inferInstance Pt.nil)) (fun (a : (Int × Int × Unit)) => m_law_thin a.1 a.2.1) (fun b => sL (rLst rTx) b)) := by
  refine ok_R (S' := Unit) 9 Fn sc_m_law_thin rfl rfl (fun _ => .no) (fun _ _ h => nomatch h) (fun _ _ h => nomatch h) (fun cdv A outer s0 H E0_ hr a => ?_)
  obtain ⟨v_law_cell_here, v_law_size, ⟨⟩⟩ := a
  refine ⟨fun _ => List.replicate 11 .no, _, (xb_set 2 (fun v_law_numbers_here1 => [sF rInt v_law_cell_here, sF rInt v_law_size, sL rInt v_law_numbers_here1, .no, .no, .no, .no, .no, .no, .no, .no]) () (lw_nos rfl) (xcall C__law_numbers G__law_numbers hr (xa_cons (xv 0) (xa_cons (xmul (xv 1) (xadd (xmul (xsub (xv 1) xint) (xsub (xv 1) xint)) xint)) (xa_cons xint xa_nil)))) (fun _ => rfl) (fun v_law_numbers_here1 =>
(xb_set 3 (fun v_law_rules_here1 => [sF rInt v_law_cell_here, sF rInt v_law_size, sL rInt v_law_numbers_here1, sL (rLst rTx) v_law_rules_here1, .no, .no, .no, .no, .no, .no, .no]) () (lw_nos rfl) (xn_nil (r := (rLst rTx))) (fun _ => rfl) (fun v_law_rules_here1 =>
(xb_forv (T := ((List Int) × (List (List (List Nat))))) (m_law_thin_s1 v_law_size) (fun t1 => [sF rInt v_law_cell_here, sF rInt v_law_size, sL rInt t1.1, sL (rLst rTx) t1.2, .no, .no, .no, .no, .no, .no, .no]) (v_law_numbers_here1, v_law_rules_here1) () (lw_nos rfl) (by walk_at "lw") cnD_po (xi_rng (xv 1) B.z_range) (xg_name 4) (fun t1 x1 => [sF rInt v_law_cell_here, sF rInt v_law_size, sL rInt t1.1, sL (rLst rTx) t1.2, sF rInt x1, .no, .no, .no, .no, .no, .no]) (fun _ _ => rfl) (fun t1 x1 => XB.cast
(xb_set 5 (fun v_law_row1 => [sF rInt v_law_cell_here, sF rInt v_law_size, sL rInt t1.1, sL (rLst rTx) t1.2, sF rInt x1, sL rTx v_law_row1, .no, .no, .no, .no, .no]) () (lw_nos rfl) (xn_nil (r := rTx)) (fun _ => rfl) (fun v_law_row1 =>
(xb_ifMv (S := (((List Int) × Int) × Bool)) (ζ := (List Int)) (S2 := ((List Int) × (List (List Nat)))) (slj := (fun s3 => [sF rInt v_law_cell_here, sF rInt v_law_size, sL rInt s3.1, sL (rLst rTx) t1.2, sF rInt x1, sL rTx s3.2, .no, .no, .no, .no, .no])) (fun s2 => ((repR ([46] : List Nat) v_law_size)).bind fun y4 =>
(appR v_law_row1 y4).bind fun v_law_row3 =>
(R.ok (s2.1.1, v_law_row3))) (fun s2 => (R.ok (s2.1.1, v_law_row1))) (fun _ => ()) (fun _ => lw_nos rfl) (xmq_lt (S := ((List Int) × Int)) (ζ := (List Int)) (zs := fun s1 => s1.1) (by intro _; exact Lw.refl _) (xm_pop (mk := mL rInt) (sle := fun z => [sF rInt v_law_cell_here, sF rInt v_law_size, sL rInt z, sL (rLst rTx) t1.2, sF rInt x1, sL rTx v_law_row1, .no, .no, .no, .no, .no]) 2 rfl) (fun s1 => xint))
(fun s2 =>
(xb_app 5 (fun v_law_row3 => [sF rInt v_law_cell_here, sF rInt v_law_size, sL rInt s2.1.1, sL (rLst rTx) t1.2, sF rInt x1, sL rTx v_law_row3, .no, .no, .no, .no, .no]) () (lw_nos rfl) rfl (xrep (xtx [46]) (xv 1)) (fun _ => rfl) (fun v_law_row3 =>
(xb_nil (s2.1.1, v_law_row3) (by walk_at "lw")))))
(fun s2 =>
(xb_nil (s2.1.1, v_law_row1) (by walk_at "lw"))) (fun s k => by first | (simp only [R.bindOk, R.bindEr, R.bindNo, R.thnOk, R.thnEr, R.thnNo, R.thn_id, R.bind_bind, R.thn_bind, R.bind_ok, R.cond_ok, R.noerOk, R.bind_thn, R.thn_thn, cond_true, cond_false]; done) | rfl) (fun s k => by first | (simp only [R.bindOk, R.bindEr, R.bindNo, R.thnOk, R.thnEr, R.thnNo, R.thn_id, R.bind_bind, R.thn_bind, R.bind_ok, R.cond_ok, R.noerOk, R.bind_thn, R.thn_thn, cond_true, cond_false]; done) | rfl) (fun s3 =>
(xb_forv (T := ((List Int) × (List (List Nat)))) (m_law_thin_s2 v_law_size x1) (fun t2 => [sF rInt v_law_cell_here, sF rInt v_law_size, sL rInt t2.1, sL (rLst rTx) t1.2, sF rInt x1, sL rTx t2.2, .no, .no, .no, .no, .no]) (s3.1, s3.2) () (lw_nos rfl) (by walk_at "lw") cnD_po (xi_rng (xv 1) B.z_range) (xg_name 6) (fun t2 x2 => [sF rInt v_law_cell_here, sF rInt v_law_size, sL rInt t2.1, sL (rLst rTx) t1.2, sF rInt x1, sL rTx t2.2, sF rInt x2, .no, .no, .no, .no]) (fun _ _ => rfl) (fun t2 x2 => XB.cast
(xb_forv (T := ((List Int) × (List (List Nat)))) (m_law_thin_s3 v_law_size x1 x2) (fun t3 => [sF rInt v_law_cell_here, sF rInt v_law_size, sL rInt t3.1, sL (rLst rTx) t1.2, sF rInt x1, sL rTx t3.2, sF rInt x2, .no, .no, .no, .no]) (t2.1, t2.2) () (lw_nos rfl) (by walk_at "lw") cnD_po (xi_rng (xv 1) B.z_range) (xg_name 7) (fun t3 x3 => [sF rInt v_law_cell_here, sF rInt v_law_size, sL rInt t3.1, sL (rLst rTx) t1.2, sF rInt x1, sL rTx t3.2, sF rInt x2, sF rInt x3, .no, .no, .no]) (fun _ _ => rfl) (fun t3 x3 => XB.cast
(xb_ifv (S := ((List Int) × (List (List Nat)))) (slj := (fun s4 => [sF rInt v_law_cell_here, sF rInt v_law_size, sL rInt s4.1, sL (rLst rTx) t1.2, sF rInt x1, sL rTx s4.2, sF rInt x2, sF rInt x3, .no, .no, .no])) () (((((rngR v_law_size)).bind fun y5 => (R.mapR (fun _ => (R.ok true : R Er Bool)) (fun x4 => ((R.ok ([46] : List Nat)) : R Er (List Nat))) y5))).bind fun v_law_signs1 =>
(R.iff (0 ≤ x3 ∧ x3 < v_law_signs1.length) (.ok (v_law_signs1.set (x3).toNat ([114] : List Nat)))).bind fun v_law_signs2 =>
(R.iff (0 ≤ x2 ∧ x2 < v_law_signs2.length) (.ok (v_law_signs2.set (x2).toNat ([104] : List Nat)))).bind fun v_law_signs3 =>
((((((popR t3.1 : R (Er × (List Int)) ((List Int) × Int))).bind fun s5 =>
let v_law_numbers_here9 := s5.1
((((mulR (2 : Int) (cond (decide (x2 = x3)) (1 : Int) 0))).bind fun y6 => R.ok ((2 : Int) + y6))).thn (fun e => (e, s5.1)) fun y7 => R.ok (s5, decide (s5.2 < y7)))).thn (fun y => y.1) fun s6 =>
let v_law_numbers_here10 := s6.1.1
cond s6.2 (((joinR ([] : List Nat) v_law_signs3)).bind fun y8 =>
(appR t3.2 y8).bind fun v_law_row8 =>
(R.ok (s6.1.1, v_law_row8)))
((R.ok (s6.1.1, t3.2))))).bind fun s7 =>
let v_law_numbers_here11 := s7.1
let v_law_row7 := s7.2
(R.ok (s7.1, s7.2))) ((R.ok (t3.1, t3.2))) (lw_nos rfl) (xqw (xqand (xqc (xne (xv 6) (xv 4))) (xqand1 (xqc (xne (xv 7) (xv 4))))))
(xb_setLc 8 (fun v_law_signs1 => [sF rInt v_law_cell_here, sF rInt v_law_size, sL rInt t3.1, sL (rLst rTx) t1.2, sF rInt x1, sL rTx t3.2, sF rInt x2, sF rInt x3, sL rTx v_law_signs1, .no, .no]) () (lw_nos rfl) (xlc [("_law_k", 10)] (fun x4 => [sF rInt v_law_cell_here, sF rInt v_law_size, sL rInt t3.1, sL (rLst rTx) t1.2, sF rInt x1, sL rTx t3.2, sF rInt x2, sF rInt x3, .no, .no, sF rInt x4]) (xi_rng (xv 1) B.z_range) (fun _ _ _ _ _ => (xg_name 10)) (fun _ => rfl) (fun _ _ _ _ _ x4 => xqs0) (fun _ _ _ _ _ x4 => (xtx [46])) (ok := (by decide +kernel : blkC ["_law_cell_here", "_law_size", "_law_numbers_here", "_law_rules_here", "_law_item", "_law_row", "_law_one", "_law_two", "_law_signs", "_law_state", "_law_k"] (defScope st_m_law_thin) _ [("_law_k", 10)] = true))) (fun _ => rfl) (fun v_law_signs1 =>
(xb_itemO (mk := mL rTx) 8 (fun v_law_signs2 => [sF rInt v_law_cell_here, sF rInt v_law_size, sL rInt t3.1, sL (rLst rTx) t1.2, sF rInt x1, sL rTx t3.2, sF rInt x2, sF rInt x3, sL rTx v_law_signs2, .no, .no]) () (lw_nos rfl) rfl (xtx [114]) (xv 7) (fun _ => rfl) (fun v_law_signs2 =>
(xb_itemO (mk := mL rTx) 8 (fun v_law_signs3 => [sF rInt v_law_cell_here, sF rInt v_law_size, sL rInt t3.1, sL (rLst rTx) t1.2, sF rInt x1, sL rTx t3.2, sF rInt x2, sF rInt x3, sL rTx v_law_signs3, .no, .no]) () (lw_nos rfl) rfl (xtx [104]) (xv 6) (fun _ => rfl) (fun v_law_signs3 =>
(xb_ifMv (S := (((List Int) × Int) × Bool)) (ζ := (List Int)) (S2 := ((List Int) × (List (List Nat)))) (slj := (fun s7 => [sF rInt v_law_cell_here, sF rInt v_law_size, sL rInt s7.1, sL (rLst rTx) t1.2, sF rInt x1, sL rTx s7.2, sF rInt x2, sF rInt x3, sL rTx v_law_signs3, .no, .no])) (fun s6 => ((joinR ([] : List Nat) v_law_signs3)).bind fun y8 =>
(appR t3.2 y8).bind fun v_law_row8 =>
(R.ok (s6.1.1, v_law_row8))) (fun s6 => (R.ok (s6.1.1, t3.2))) (fun _ => ()) (fun _ => lw_nos rfl) (xmq_lt (S := ((List Int) × Int)) (ζ := (List Int)) (zs := fun s5 => s5.1) (by intro _; exact Lw.refl _) (xm_pop (mk := mL rInt) (sle := fun z => [sF rInt v_law_cell_here, sF rInt v_law_size, sL rInt z, sL (rLst rTx) t1.2, sF rInt x1, sL rTx t3.2, sF rInt x2, sF rInt x3, sL rTx v_law_signs3, .no, .no]) 2 rfl) (fun s5 => (xadd xint (xmul xint (xintB (xcv (xeq (xv 6) (xv 7))) B.z_int)))))
(fun s6 =>
(xb_app 5 (fun v_law_row8 => [sF rInt v_law_cell_here, sF rInt v_law_size, sL rInt s6.1.1, sL (rLst rTx) t1.2, sF rInt x1, sL rTx v_law_row8, sF rInt x2, sF rInt x3, sL rTx v_law_signs3, .no, .no]) () (lw_nos rfl) rfl (xjoin (xtx []) (xvm (mu := mL rTx) 8)) (fun _ => rfl) (fun v_law_row8 =>
(xb_nil (s6.1.1, v_law_row8) (by walk_at "lw")))))
(fun s6 =>
(xb_nil (s6.1.1, t3.2) (by walk_at "lw"))) (fun s k => by first | (simp only [R.bindOk, R.bindEr, R.bindNo, R.thnOk, R.thnEr, R.thnNo, R.thn_id, R.bind_bind, R.thn_bind, R.bind_ok, R.cond_ok, R.noerOk, R.bind_thn, R.thn_thn, cond_true, cond_false]; done) | rfl) (fun s k => by first | (simp only [R.bindOk, R.bindEr, R.bindNo, R.thnOk, R.thnEr, R.thnNo, R.thn_id, R.bind_bind, R.thn_bind, R.bind_ok, R.cond_ok, R.noerOk, R.bind_thn, R.thn_thn, cond_true, cond_false]; done) | rfl) (fun s7 =>
(xb_nil (s7.1, s7.2) (by walk_at "lw"))))))))))
(xb_nil (t3.1, t3.2) (by walk_at "lw")) (fun k => by first | (simp only [R.bindOk, R.bindEr, R.bindNo, R.thnOk, R.thnEr, R.thnNo, R.thn_id, R.bind_bind, R.thn_bind, R.bind_ok, R.cond_ok, R.noerOk, R.bind_thn, R.thn_thn, cond_true, cond_false]; done) | rfl) (fun k => by first | (simp only [R.bindOk, R.bindEr, R.bindNo, R.thnOk, R.thnEr, R.thnNo, R.thn_id, R.bind_bind, R.thn_bind, R.bind_ok, R.cond_ok, R.noerOk, R.bind_thn, R.thn_thn, cond_true, cond_false]; done) | rfl) (fun s4 =>
(xb_nil (s4.1, s4.2) (by walk_at "lw")))) (fun k => by unfold m_law_thin_s3; first | (simp only [R.bindOk, R.bindEr, R.bindNo, R.thnOk, R.thnEr, R.thnNo, R.thn_id, R.bind_bind, R.thn_bind, R.bind_ok, R.cond_ok, R.noerOk, R.bind_thn, R.thn_thn, cond_true, cond_false]; done) | rfl)) (fun t4 =>
(xb_nil (t4.1, t4.2) (by walk_at "lw")))) (fun k => by unfold m_law_thin_s2; first | (simp only [R.bindOk, R.bindEr, R.bindNo, R.thnOk, R.thnEr, R.thnNo, R.thn_id, R.bind_bind, R.thn_bind, R.bind_ok, R.cond_ok, R.noerOk, R.bind_thn, R.thn_thn, cond_true, cond_false]; done) | rfl)) (fun t5 =>
(xb_fz 5 [sF rInt v_law_cell_here, sF rInt v_law_size, sL rInt t5.1, sL (rLst rTx) t1.2, sF rInt x1, sF (rLst rTx) t5.2, .no, .no, .no, .no, .no] rfl rfl (xb_app 3 (fun v_law_rules_here3 => [sF rInt v_law_cell_here, sF rInt v_law_size, sL rInt t5.1, sL (rLst rTx) v_law_rules_here3, sF rInt x1, sF (rLst rTx) t5.2, .no, .no, .no, .no, .no]) () (lw_nos rfl) rfl (xfz (xsortT (xfz (xnlc (xlc [("_law_state", 9)] (fun x5 => [sF rInt v_law_cell_here, sF rInt v_law_size, sL rInt t5.1, sL (rLst rTx) t1.2, sF rInt x1, sF (rLst rTx) t5.2, .no, .no, .no, sF rTx x5, .no]) (xi_list (xv 5)) (fun _ _ _ _ _ => (xg_name 9)) (fun _ => rfl) (fun _ _ _ _ _ x5 => xqs0) (fun _ _ _ _ _ x5 => (xstrT (xv 9) B.z_str)) (ok := (by decide +kernel : blkC ["_law_cell_here", "_law_size", "_law_numbers_here", "_law_rules_here", "_law_item", "_law_row", "_law_one", "_law_two", "_law_signs", "_law_state", "_law_k"] (defScope st_m_law_thin) _ [("_law_state", 9)] = true))))) B.z_sorted)) (fun _ => rfl) (fun v_law_rules_here3 =>
(xb_nil (t5.1, v_law_rules_here3) (by walk_at "lw"))))))))))) (fun k => by unfold m_law_thin_s1; first | (simp only [R.bindOk, R.bindEr, R.bindNo, R.thnOk, R.thnEr, R.thnNo, R.thn_id, R.bind_bind, R.thn_bind, R.bind_ok, R.cond_ok, R.noerOk, R.bind_thn, R.thn_thn, cond_true, cond_false]; done) | rfl)) (fun t6 =>
(xb_retO 3 () rfl t6.2 rfl (lw_nos rfl)))))))), ?_⟩
  all_goals (show _ = m_law_thin v_law_cell_here v_law_size; unfold m_law_thin; first | (simp only [R.bindOk, R.bindEr, R.bindNo, R.thnOk, R.thnEr, R.thnNo, R.thn_id, R.bind_bind, R.thn_bind, R.bind_ok, R.cond_ok, R.noerOk, R.bind_thn, R.thn_thn, cond_true, cond_false]; done) | rfl)
abbrev st_m_law_some : Stmt := top 42
theorem sc_m_law_some : FnScope ["_law_cell_here", "_law_size", "_law_mode"] ["_law_cell_here", "_law_size", "_law_mode"] (defScope st_m_law_some) := ⟨rfl, rfl, rfl, by decide +kernel, rfl, by decide +kernel, by decide +kernel⟩
set_option maxHeartbeats 4000000 in
theorem ok_m_law_some (B : Bt P w K mg xt) {fa : Addr} {fd : FuncData} (Fn : Fun K "_law_some" "_law_some" st_m_law_some fa fd) {a__law_thin : Addr} {d__law_thin : FuncData} (C__law_thin : Cal K mg "_law_thin" a__law_thin d__law_thin ["_law_cell_here", "_law_size"]) (G__law_thin : FnOk P w K mg base (L2.CX P w) 2 a__law_thin d__law_thin ["_law_cell_here", "_law_size"] (spR xt (Pt.cons .sh rInt inferInstance (Pt.cons .sh rInt inferInstance Pt.nil)) (fun (a : (Int × Int × Unit)) => m_law_thin a.1 a.2.1) (fun b => sL (rLst rTx) b))) {a__law_rules : Addr} {d__law_rules : FuncData} (C__law_rules : Cal K mg "_law_rules" a__law_rules d__law_rules ["_law_cell_here", "_law_size", "_law_mode"]) (G__law_rules : FnOk P w K mg base (L2.CX P w) 2 a__law_rules d__law_rules ["_law_cell_here", "_law_size", "_law_mode"] (spR xt (Pt.cons .sh rInt inferInstance (Pt.cons .sh rInt inferInstance (Pt.cons .sh rInt inferInstance Pt.nil))) (fun (a : (Int × Int × Int × Unit)) => m_law_rules a.1 a.2.1 a.2.2.1) (fun b => sL (rLst rTx) b))) : FnOk P w K mg base (L2.CX P w) 3 fa fd ["_law_cell_here", "_law_size", "_law_mode"] (spR xt (Pt.cons .sh rInt inferInstance (Pt.cons .sh rInt inferInstance (Pt.cons .sh rInt inferInstance Pt.nil))) (fun (a : (Int × Int × Int × Unit)) => m_law_some a.1 a.2.1 a.2.2.1) (fun b => sL (rLst rTx) b)) := by
  refine ok_R (S' := Unit) 0 Fn sc_m_law_some rfl rfl (fun _ => .no) (fun _ _ h => nomatch h) (fun _ _ h => nomatch h) (fun cdv A outer s0 H E0_ hr a => ?_)
  obtain ⟨v_law_cell_here, v_law_size, v_law_mode, ⟨⟩⟩ := a
  refine ⟨fun _ => List.replicate 3 .no, _, (xb_if (S := Unit) (slj := (fun s1 => [sF rInt v_law_cell_here, sF rInt v_law_size, sF rInt v_law_mode])) () (lw_nos rfl) (xqw (xqand (xqc (xgt (xv 1) xint)) (xqand1 (xqc (xlt (xv 0) (xpow xint xint))))))
(xb_ret () (lw_nos rfl) (fun a => a) (fun _ => rfl) (xcall C__law_thin G__law_thin hr (xa_cons (xv 0) (xa_cons (xv 1) xa_nil))))
(xb_nil () (by walk_at "lw")) (fun s1 =>
(xb_ret () (lw_nos rfl) (fun a => a) (fun _ => rfl) (xcall C__law_rules G__law_rules hr (xa_cons (xv 0) (xa_cons (xv 1) (xa_cons (xv 2) xa_nil))))))), ?_⟩
  all_goals (show _ = m_law_some v_law_cell_here v_law_size v_law_mode; unfold m_law_some; first | (simp only [R.bindOk, R.bindEr, R.bindNo, R.thnOk, R.thnEr, R.thnNo, R.thn_id, R.bind_bind, R.thn_bind, R.bind_ok, R.cond_ok, R.noerOk, R.bind_thn, R.thn_thn, cond_true, cond_false]; done) | rfl)
abbrev st_m_law_shuffled : Stmt := top 43
theorem sc_m_law_shuffled : FnScope ["_law_row", "_law_numbers_here", "_law_left", "_law_rows", "_law_number"] ["_law_row", "_law_numbers_here"] (defScope st_m_law_shuffled) := ⟨rfl, rfl, rfl, by decide +kernel, rfl, by decide +kernel, by decide +kernel⟩
set_option maxHeartbeats 4000000 in
theorem ok_m_law_shuffled (B : Bt P w K mg xt) {fa : Addr} {fd : FuncData} (Fn : Fun K "_law_shuffled" "_law_shuffled" st_m_law_shuffled fa fd) : FnOk P w K mg base (L2.CX P w) 1 fa fd ["_law_row", "_law_numbers_here"] (spR xt (Pt.cons .sh (rLst (rPr rInt rTx)) inferInstance (Pt.cons .sh (rLst rInt) inferInstance Pt.nil)) (fun (a : ((List (Int × (List Nat))) × (List Int) × Unit)) => m_law_shuffled a.1 a.2.1) (fun b => sL (rPr rInt rTx) b)) := by
  refine ok_R (S' := Unit) 3 Fn sc_m_law_shuffled rfl rfl (fun _ => .no) (fun _ _ h => nomatch h) (fun _ _ h => nomatch h) (fun cdv A outer s0 H E0_ hr a => ?_)
  obtain ⟨v_law_row, v_law_numbers_here, ⟨⟩⟩ := a
  refine ⟨fun _ => List.replicate 5 .no, _, (xb_set 2 (fun v_law_left1 => [sF (rLst (rPr rInt rTx)) v_law_row, sF (rLst rInt) v_law_numbers_here, sL (rPr rInt rTx) v_law_left1, .no, .no]) () (lw_nos rfl) (xlistL (xv 0) B.z_list) (fun _ => rfl) (fun v_law_left1 =>
(xb_set 3 (fun v_law_rows1 => [sF (rLst (rPr rInt rTx)) v_law_row, sF (rLst rInt) v_law_numbers_here, sL (rPr rInt rTx) v_law_left1, sL (rPr rInt rTx) v_law_rows1, .no]) () (lw_nos rfl) (xn_nil (r := (rPr rInt rTx))) (fun _ => rfl) (fun v_law_rows1 =>
(xb_forv (T := ((List (Int × (List Nat))) × (List (Int × (List Nat))))) (m_law_shuffled_s1) (fun t1 => [sF (rLst (rPr rInt rTx)) v_law_row, sF (rLst rInt) v_law_numbers_here, sL (rPr rInt rTx) t1.2, sL (rPr rInt rTx) t1.1, .no]) (v_law_rows1, v_law_left1) () (lw_nos rfl) (by walk_at "lw") cnD_po (xi_list (xv 1)) (xg_name 4) (fun t1 x1 => [sF (rLst (rPr rInt rTx)) v_law_row, sF (rLst rInt) v_law_numbers_here, sL (rPr rInt rTx) t1.2, sL (rPr rInt rTx) t1.1, sF rInt x1]) (fun _ _ => rfl) (fun t1 x1 => XB.cast
(xb_ifv (S := ((List (Int × (List Nat))) × (List (Int × (List Nat))))) (slj := (fun s1 => [sF (rLst (rPr rInt rTx)) v_law_row, sF (rLst rInt) v_law_numbers_here, sL (rPr rInt rTx) s1.2, sL (rPr rInt rTx) s1.1, sF rInt x1])) () (((((modR x1 (t1.2.length : Int))).thn (fun y => (y, t1.2)) fun j => (popAtR t1.2 j : R (Er × (List (Int × (List Nat)))) ((List (Int × (List Nat))) × (Int × (List Nat)))))).thn (fun y => y.1) fun s2 =>
let v_law_left4 := s2.1
(appR t1.1 s2.2).bind fun v_law_rows4 =>
(R.ok (v_law_rows4, s2.1))) ((R.ok (t1.1, t1.2))) (lw_nos rfl) (xqc (xned (r := (rLst (rPr rInt rTx))) (xvm (mu := mL (rPr rInt rTx)) 2) hr (xfz (xn_nil (r := (rPr rInt rTx))))))
(xb_appM (S := ((List (Int × (List Nat))) × (Int × (List Nat)))) (ζ := (List (Int × (List Nat)))) (mk := mL (rPr rInt rTx)) (xw := fun s2 => t1.1) 3 (fun s2 v_law_rows4 => [sF (rLst (rPr rInt rTx)) v_law_row, sF (rLst rInt) v_law_numbers_here, sL (rPr rInt rTx) s2.1, sL (rPr rInt rTx) v_law_rows4, sF rInt x1]) (fun _ => ()) (fun _ => lw_nos rfl) rfl (fun _ => rfl) (xm_popAt (mk := mL (rPr rInt rTx)) (sle := fun z => [sF (rLst (rPr rInt rTx)) v_law_row, sF (rLst rInt) v_law_numbers_here, sL (rPr rInt rTx) z, sL (rPr rInt rTx) t1.1, sF rInt x1]) 2 t1.2 (by walk_at "lw") rfl (xmod (xintI (xv 4) B.z_int) (xlenL (xvm (mu := mL (rPr rInt rTx)) 2) B.z_len))) (fun _ _ => rfl) (fun s2 v_law_rows4 =>
(xb_nil (v_law_rows4, s2.1) (by walk_at "lw"))))
(xb_nil (t1.1, t1.2) (by walk_at "lw")) (fun k => by first | (simp only [R.bindOk, R.bindEr, R.bindNo, R.thnOk, R.thnEr, R.thnNo, R.thn_id, R.bind_bind, R.thn_bind, R.bind_ok, R.cond_ok, R.noerOk, R.bind_thn, R.thn_thn, cond_true, cond_false]; done) | rfl) (fun k => by first | (simp only [R.bindOk, R.bindEr, R.bindNo, R.thnOk, R.thnEr, R.thnNo, R.thn_id, R.bind_bind, R.thn_bind, R.bind_ok, R.cond_ok, R.noerOk, R.bind_thn, R.thn_thn, cond_true, cond_false]; done) | rfl) (fun s1 =>
(xb_nil (s1.1, s1.2) (by walk_at "lw")))) (fun k => by unfold m_law_shuffled_s1; first | (simp only [R.bindOk, R.bindEr, R.bindNo, R.thnOk, R.thnEr, R.thnNo, R.thn_id, R.bind_bind, R.thn_bind, R.bind_ok, R.cond_ok, R.noerOk, R.bind_thn, R.thn_thn, cond_true, cond_false]; done) | rfl)) (fun t2 =>
(xb_fz 3 [sF (rLst (rPr rInt rTx)) v_law_row, sF (rLst rInt) v_law_numbers_here, sL (rPr rInt rTx) t2.2, sF (rLst (rPr rInt rTx)) t2.1, .no] rfl rfl (xb_fz 2 [sF (rLst (rPr rInt rTx)) v_law_row, sF (rLst rInt) v_law_numbers_here, sF (rLst (rPr rInt rTx)) t2.2, sF (rLst (rPr rInt rTx)) t2.1, .no] rfl rfl (xb_ret () (lw_nos rfl) (fun a => a) (fun _ => rfl) (xcatL (xv 3) (xv 2))))))))))), ?_⟩
  all_goals (show _ = m_law_shuffled v_law_row v_law_numbers_here; unfold m_law_shuffled; first | (simp only [R.bindOk, R.bindEr, R.bindNo, R.thnOk, R.thnEr, R.thnNo, R.thn_id, R.bind_bind, R.thn_bind, R.bind_ok, R.cond_ok, R.noerOk, R.bind_thn, R.thn_thn, cond_true, cond_false]; done) | rfl)
abbrev st_m_law_entries : Stmt := top 44
theorem sc_m_law_entries : FnScope ["_law_rules_here", "_law_rows", "_law_item", "_law_state"] ["_law_rules_here"] (defScope st_m_law_entries) := ⟨rfl, rfl, rfl, by decide +kernel, rfl, by decide +kernel, by decide +kernel⟩
set_option maxHeartbeats 4000000 in
theorem ok_m_law_entries (B : Bt P w K mg xt) {fa : Addr} {fd : FuncData} (Fn : Fun K "_law_entries" "_law_entries" st_m_law_entries fa fd) : FnOk P w K mg base (L2.CX P w) 1 fa fd ["_law_rules_here"] (spR xt (Pt.cons .bo (rLst (rLst rTx)) inferInstance Pt.nil) (fun (a : ((List (List (List Nat))) × Unit)) => m_law_entries a.1) (fun b => sL (rPr rInt rTx) b)) := by
  refine ok_R (S' := Unit) 3 Fn sc_m_law_entries rfl rfl (fun _ => .no) (fun _ _ h => nomatch h) (fun _ _ h => nomatch h) (fun cdv A outer s0 H E0_ hr a => ?_)
  obtain ⟨v_law_rules_here, ⟨⟩⟩ := a
  refine ⟨fun _ => List.replicate 4 .no, _, (xb_set 1 (fun v_law_rows1 => [sB (rLst (rLst rTx)) v_law_rules_here, sL (rPr rInt rTx) v_law_rows1, .no, .no]) () (lw_nos rfl) (xn_nil (r := (rPr rInt rTx))) (fun _ => rfl) (fun v_law_rows1 =>
(xb_forv (T := (List (Int × (List Nat)))) (m_law_entries_s1 v_law_rules_here) (fun t1 => [sB (rLst (rLst rTx)) v_law_rules_here, sL (rPr rInt rTx) t1, .no, .no]) v_law_rows1 () (lw_nos rfl) (by walk_at "lw") cnD_po (xi_rng (xlenL (xvb 0) B.z_len) B.z_range) (xg_name 2) (fun t1 x1 => [sB (rLst (rLst rTx)) v_law_rules_here, sL (rPr rInt rTx) t1, sF rInt x1, .no]) (fun _ _ => rfl) (fun t1 x1 => XB.cast
(xb_forv (T := (List (Int × (List Nat)))) (m_law_entries_s2 x1) (fun t2 => [sB (rLst (rLst rTx)) v_law_rules_here, sL (rPr rInt rTx) t2, sF rInt x1, .no]) t1 () (lw_nos rfl) (by walk_at "lw") cnD_po (xi_list (xixL (xvb 0) (xv 2))) (xg_name 3) (fun t2 x2 => [sB (rLst (rLst rTx)) v_law_rules_here, sL (rPr rInt rTx) t2, sF rInt x1, sB rTx x2]) (fun _ _ => rfl) (fun t2 x2 => XB.cast
(xb_app 1 (fun v_law_rows4 => [sB (rLst (rLst rTx)) v_law_rules_here, sL (rPr rInt rTx) v_law_rows4, sF rInt x1, sB rTx x2]) () (lw_nos rfl) rfl (xpr (xv 2) (xfl (xvb 3))) (fun _ => rfl) (fun v_law_rows4 =>
(xb_nil v_law_rows4 (by walk_at "lw")))) (fun k => by unfold m_law_entries_s2; first | (simp only [R.bindOk, R.bindEr, R.bindNo, R.thnOk, R.thnEr, R.thnNo, R.thn_id, R.bind_bind, R.thn_bind, R.bind_ok, R.cond_ok, R.noerOk, R.bind_thn, R.thn_thn, cond_true, cond_false]; done) | rfl)) (fun t3 =>
(xb_nil t3 (by walk_at "lw")))) (fun k => by unfold m_law_entries_s1; first | (simp only [R.bindOk, R.bindEr, R.bindNo, R.thnOk, R.thnEr, R.thnNo, R.thn_id, R.bind_bind, R.thn_bind, R.bind_ok, R.cond_ok, R.noerOk, R.bind_thn, R.thn_thn, cond_true, cond_false]; done) | rfl)) (fun t4 =>
(xb_retO 1 () rfl t4 rfl (lw_nos rfl)))))), ?_⟩
  all_goals (show _ = m_law_entries v_law_rules_here; unfold m_law_entries; first | (simp only [R.bindOk, R.bindEr, R.bindNo, R.thnOk, R.thnEr, R.thnNo, R.thn_id, R.bind_bind, R.thn_bind, R.bind_ok, R.cond_ok, R.noerOk, R.bind_thn, R.thn_thn, cond_true, cond_false]; done) | rfl)
abbrev st_m_law_bad_state : Stmt := top 45
theorem sc_m_law_bad_state : FnScope ["_law_size", "_law_item", "_law_numbers_here", "_law_state", "_law_kind", "_law_place", "_law_sign", "_law_number"] ["_law_size", "_law_item", "_law_numbers_here"] (defScope st_m_law_bad_state) := ⟨rfl, rfl, rfl, by decide +kernel, rfl, by decide +kernel, by decide +kernel⟩
set_option maxHeartbeats 4000000 in
theorem ok_m_law_bad_state (B : Bt P w K mg xt) {fa : Addr} {fd : FuncData} (Fn : Fun K "_law_bad_state" "_law_bad_state" st_m_law_bad_state fa fd) : FnOk P w K mg base (L2.CX P w) 1 fa fd ["_law_size", "_law_item", "_law_numbers_here"] (spR xt (Pt.cons .sh rInt inferInstance (Pt.cons .sh rInt inferInstance (Pt.cons .sh (rLst rInt) inferInstance Pt.nil))) (fun (a : (Int × Int × (List Int) × Unit)) => m_law_bad_state a.1 a.2.1 a.2.2.1) (fun b => sF rTx b)) := by
  refine ok_R (S' := Unit) 5 Fn sc_m_law_bad_state rfl rfl (fun _ => .no) (fun _ _ h => nomatch h) (fun _ _ h => nomatch h) (fun cdv A outer s0 H E0_ hr a => ?_)
  obtain ⟨v_law_size, v_law_item, v_law_numbers_here, ⟨⟩⟩ := a
  refine ⟨fun _ => List.replicate 8 .no, _, (xb_set 3 (fun v_law_state1 => [sF rInt v_law_size, sF rInt v_law_item, sF (rLst rInt) v_law_numbers_here, sF rTx v_law_state1, .no, .no, .no, .no]) () (lw_nos rfl) (xn (xjoin (xtx []) (xfz (xnlc (xlc [("_law_number", 7)] (fun x1 => [sF rInt v_law_size, sF rInt v_law_item, sF (rLst rInt) v_law_numbers_here, .no, .no, .no, .no, sF rInt x1]) (xi_list (xfz (xslL (xv 2) xo_none (xo_some (xv 0))))) (fun _ _ _ _ _ => (xg_name 7)) (fun _ => rfl) (fun _ _ _ _ _ x1 => xqs0) (fun _ _ _ _ _ x1 => (xixT (xtx [46, 104, 114]) (xmod (xv 7) xint))) (ok := (by decide +kernel : blkC ["_law_size", "_law_item", "_law_numbers_here", "_law_state", "_law_kind", "_law_place", "_law_sign", "_law_number"] (defScope st_m_law_bad_state) _ [("_law_number", 7)] = true))))))) (fun _ => rfl) (fun v_law_state1 =>
(xb_set 3 (fun v_law_state2 => [sF rInt v_law_size, sF rInt v_law_item, sF (rLst rInt) v_law_numbers_here, sF rTx v_law_state2, .no, .no, .no, .no]) () (lw_nos rfl) (xn (xcat (xcat (xslT (xv 3) xo_none (xo_some (xv 1))) (xtx [46])) (xslT (xv 3) (xo_some (xadd (xv 1) xint)) xo_none))) (fun _ => rfl) (fun v_law_state2 =>
(xb_set 4 (fun v_law_kind1 => [sF rInt v_law_size, sF rInt v_law_item, sF (rLst rInt) v_law_numbers_here, sF rTx v_law_state2, sF rInt v_law_kind1, .no, .no, .no]) () (lw_nos rfl) (xn (xmod (xixL (xv 2) (xv 0)) xint)) (fun _ => rfl) (fun v_law_kind1 =>
(xb_if (S := Unit) (slj := (fun s1 => [sF rInt v_law_size, sF rInt v_law_item, sF (rLst rInt) v_law_numbers_here, sF rTx v_law_state2, sF rInt v_law_kind1, .no, .no, .no])) () (lw_nos rfl) (xqc (xeq (xv 4) xint))
(xb_ret () (lw_nos rfl) (fun a => a) (fun _ => rfl) (xn (xcat (xv 3) (xtx [46]))))
(xb_nil () (by walk_at "lw")) (fun s1 =>
(xb_if (S := Unit) (slj := (fun s2 => [sF rInt v_law_size, sF rInt v_law_item, sF (rLst rInt) v_law_numbers_here, sF rTx v_law_state2, sF rInt v_law_kind1, .no, .no, .no])) () (lw_nos rfl) (xqc (xeq (xv 4) xint))
(xb_ret () (lw_nos rfl) (fun a => a) (fun _ => rfl) (xn (xslT (xv 3) (xo_some xint) xo_none)))
(xb_nil () (by walk_at "lw")) (fun s2 =>
(xb_if (S := Unit) (slj := (fun s3 => [sF rInt v_law_size, sF rInt v_law_item, sF (rLst rInt) v_law_numbers_here, sF rTx v_law_state2, sF rInt v_law_kind1, .no, .no, .no])) () (lw_nos rfl) (xqc (xeq (xv 4) xint))
(xb_ret () (lw_nos rfl) (fun a => a) (fun _ => rfl) (xn (xcat (xcat (xslT (xv 3) xo_none (xo_some (xv 1))) (xixT (xtx [104, 114]) (xmod (xixL (xv 2) (xadd (xv 0) xint)) xint))) (xslT (xv 3) (xo_some (xadd (xv 1) xint)) xo_none))))
(xb_nil () (by walk_at "lw")) (fun s3 =>
(xb_if (S := Unit) (slj := (fun s4 => [sF rInt v_law_size, sF rInt v_law_item, sF (rLst rInt) v_law_numbers_here, sF rTx v_law_state2, sF rInt v_law_kind1, .no, .no, .no])) () (lw_nos rfl) (xqc (xeq (xv 4) xint))
(xb_ret () (lw_nos rfl) (fun a => a) (fun _ => rfl) (xn (xtx [])))
(xb_nil () (by walk_at "lw")) (fun s4 =>
(xb_set 5 (fun v_law_place1 => [sF rInt v_law_size, sF rInt v_law_item, sF (rLst rInt) v_law_numbers_here, sF rTx v_law_state2, sF rInt v_law_kind1, sF rInt v_law_place1, .no, .no]) () (lw_nos rfl) (xn (xmod (xixL (xv 2) (xadd (xv 0) xint)) (xv 0))) (fun _ => rfl) (fun v_law_place1 =>
(xb_set 6 (fun v_law_sign1 => [sF rInt v_law_size, sF rInt v_law_item, sF (rLst rInt) v_law_numbers_here, sF rTx v_law_state2, sF rInt v_law_kind1, sF rInt v_law_place1, sF rTx v_law_sign1, .no]) () (lw_nos rfl) (xn (xixT (xtx [72, 82, 45, 43, 120, 32, 48, 42, 104, 44, 95, 44]) (xixL (xv 2) (xadd (xv 0) xint)))) (fun _ => rfl) (fun v_law_sign1 =>
(xb_ret () (lw_nos rfl) (fun a => a) (fun _ => rfl) (xn (xcat (xcat (xcat (xslT (xv 3) xo_none (xo_some (xv 5))) (xv 6)) (xslT (xv 3) (xo_some (xadd (xv 5) xint)) xo_none)) (xslT (xtx [104]) xo_none (xo_some (xsub (xv 4) xint)))))))))))))))))))))))), ?_⟩
  all_goals (show _ = m_law_bad_state v_law_size v_law_item v_law_numbers_here; unfold m_law_bad_state; first | (simp only [R.bindOk, R.bindEr, R.bindNo, R.thnOk, R.thnEr, R.thnNo, R.thn_id, R.bind_bind, R.thn_bind, R.bind_ok, R.cond_ok, R.noerOk, R.bind_thn, R.thn_thn, cond_true, cond_false]; done) | rfl)
abbrev st_m_law_told : Stmt := top 46
theorem sc_m_law_told : FnScope ["_law_size", "_law_rows", "e"] ["_law_size", "_law_rows"] (defScope st_m_law_told) := ⟨rfl, rfl, rfl, by decide +kernel, rfl, by decide +kernel, by decide +kernel⟩
set_option maxHeartbeats 4000000 in
theorem ok_m_law_told (B : Bt P w K mg xt) {fa : Addr} {fd : FuncData} (Fn : Fun K "_law_told" "_law_told" st_m_law_told fa fd) {a_Book___init__ : Addr} {d_Book___init__ : FuncData} (C_Book___init__ : CalIK K mg (xt.cls 100) a_Book___init__ "Book" d_Book___init__ ["self", "size", "entries"] [V.ref (xt.cls 101)] 1 ["entries"]) (G_Book___init__ : FnOk P w K mg base (L2.CX P w) 3 a_Book___init__ d_Book___init__ ["self", "size", "entries"] (spM xt (m0 (xt.cls 100)) (Pt.cons .sh rInt inferInstance (Pt.cons .bo (rSq K (rPr rInt rTx)) inferInstance Pt.nil)) (fun (g : Unit) (a : (Int × (List (Int × (List Nat))) × Unit)) => m_Book_init a.1 a.2.1) (fun o d => sO (mB (xt.cls 100) "rules" (rDk rTx rBl) o d)) (fun _ (_ : Unit) => .no))) : FnOk P w K mg base (L2.CX P w) 5 fa fd ["_law_size", "_law_rows"] (spR xt (Pt.cons .sh rInt inferInstance (Pt.cons .sh (rLst (rPr rInt rTx)) inferInstance Pt.nil)) (fun (a : (Int × (List (Int × (List Nat))) × Unit)) => m_law_told a.1 a.2.1) (fun b => sF rDt b)) := by
  refine ok_R (S' := Unit) 1 Fn sc_m_law_told rfl rfl (fun _ => .no) (fun _ _ h => nomatch h) (fun _ _ h => nomatch h) (fun cdv A outer s0 H E0_ hr a => ?_)
  obtain ⟨v_law_size, v_law_rows, ⟨⟩⟩ := a
  refine ⟨fun _ => List.replicate 3 .no, _, (xb_try (S1 := Unit) (slx := (fun z1 => [.no, .no, .no])) (slj := (fun s1 => [.no, .no, .no])) (fun _ => ()) (fun _ => lw_nos rfl) (fun pn_ xe_ W_ tk_ po_ =>
(xb_exprN () (by walk_at "lw") (xmk0 C_Book___init__.ci G_Book___init__ hr (xa_cons (xv 0) (xa_cons (xsqL (xbo (xv 1))) xa_nil)))
(xb_nil () (by walk_at "lw"))))
(xh_as 2 h_BadState (M := m_law_told_h2) (fun _ => ()) (fun _ => lw_nos rfl) ⟨rfl, rfl, .inl B.g_BadState⟩ B.h_BadState (fun _ => rfl) (fun a_ oe_ cls_ d_ pn_ hz_ hv_ er0_ z1 he_ => by
 obtain ⟨kk_, er2⟩ := er0_
 have hk_ : kk_ = 6 := h_BadState_k he_
 subst hk_
 exact XB.cast (xb_ret () (by walk_at "lw") (fun a => a) (fun _ => rfl) (xn (xdt (xpr (xtx [115, 116, 97, 116, 101]) (xdT (xxf 2 0 hz_ hv_ B.x_BadState.xf B.x_BadState.hno ((congrArg (fun l => l[0]?) B.x_BadState.flds).trans rfl))))))) (fun k => by unfold m_law_told_h2; first | (simp only [R.bindOk, R.bindEr, R.bindNo, R.thnOk, R.thnEr, R.thnNo, R.thn_id, R.bind_bind, R.thn_bind, R.bind_ok, R.cond_ok, R.noerOk, R.bind_thn, R.thn_thn, cond_true, cond_false]; done) | rfl))
(xh_as 2 h_BadItem (M := m_law_told_h1) (fun _ => ()) (fun _ => lw_nos rfl) ⟨rfl, rfl, .inl B.g_BadItem⟩ B.h_BadItem (fun _ => rfl) (fun a_ oe_ cls_ d_ pn_ hz_ hv_ er0_ z1 he_ => by
 obtain ⟨kk_, er1⟩ := er0_
 have hk_ : kk_ = 5 := h_BadItem_k he_
 subst hk_
 exact XB.cast (xb_ret () (by walk_at "lw") (fun a => a) (fun _ => rfl) (xn (xdt (xpr (xtx [105, 116, 101, 109]) (xdI (xxf 2 0 hz_ hv_ B.x_BadItem.xf B.x_BadItem.hno ((congrArg (fun l => l[0]?) B.x_BadItem.flds).trans rfl))))))) (fun k => by unfold m_law_told_h1; first | (simp only [R.bindOk, R.bindEr, R.bindNo, R.thnOk, R.thnEr, R.thnNo, R.thn_id, R.bind_bind, R.thn_bind, R.bind_ok, R.cond_ok, R.noerOk, R.bind_thn, R.thn_thn, cond_true, cond_false]; done) | rfl))
(xh_nil (fun _ => ()) (fun _ => lw_nos rfl)))) (fun s1 =>
(xb_ret () (lw_nos rfl) (fun a => a) (fun _ => rfl) (xn (xdt (xtup (r := rInt) xl_nil)))))), ?_⟩
  all_goals (show _ = m_law_told v_law_size v_law_rows; unfold m_law_told; first | (simp only [R.bindOk, R.bindEr, R.bindNo, R.thnOk, R.thnEr, R.thnNo, R.thn_id, R.bind_bind, R.thn_bind, R.bind_ok, R.cond_ok, R.noerOk, R.bind_thn, R.thn_thn, cond_true, cond_false]; done) | rfl)
abbrev st_m_law : Stmt := top 47
theorem sc_m_law : FnScope ["_law_script", "_law_plan", "_law_size", "_law_rules_here", "_law_numbers_here", "_law_due", "_law_rows", "_law_given", "_law_book", "_law_told_here", "_law_item", "_law_bad", "_law_place", "_law_k"] ["_law_script"] (defScope st_m_law) := ⟨rfl, rfl, rfl, by decide +kernel, rfl, by decide +kernel, by decide +kernel⟩
set_option maxHeartbeats 4000000 in
theorem ok_m_law (B : Bt P w K mg xt) {fa : Addr} {fd : FuncData} (Fn : Fun K "law" "law" st_m_law fa fd) {a__law_numbers : Addr} {d__law_numbers : FuncData} (C__law_numbers : Cal K mg "_law_numbers" a__law_numbers d__law_numbers ["_law_cell_here", "_law_many", "_law_limit"]) (G__law_numbers : FnOk P w K mg base (L2.CX P w) 1 a__law_numbers d__law_numbers ["_law_cell_here", "_law_many", "_law_limit"] (spR xt (Pt.cons .sh rInt inferInstance (Pt.cons .sh rInt inferInstance (Pt.cons .sh rInt inferInstance Pt.nil))) (fun (a : (Int × Int × Int × Unit)) => m_law_numbers a.1 a.2.1 a.2.2.1) (fun b => sL rInt b))) {a__law_cell : Addr} {d__law_cell : FuncData} (C__law_cell : Cal K mg "_law_cell" a__law_cell d__law_cell ["_law_script", "_law_k"]) (G__law_cell : FnOk P w K mg base (L2.CX P w) 1 a__law_cell d__law_cell ["_law_script", "_law_k"] (spR xt (Pt.cons .bo (rScr K) inferInstance (Pt.cons .sh rInt inferInstance Pt.nil)) (fun (a : ((List Int) × Int × Unit)) => m_law_cell a.1 a.2.1) (fun b => sF rInt b))) {a__law_some : Addr} {d__law_some : FuncData} (C__law_some : Cal K mg "_law_some" a__law_some d__law_some ["_law_cell_here", "_law_size", "_law_mode"]) (G__law_some : FnOk P w K mg base (L2.CX P w) 3 a__law_some d__law_some ["_law_cell_here", "_law_size", "_law_mode"] (spR xt (Pt.cons .sh rInt inferInstance (Pt.cons .sh rInt inferInstance (Pt.cons .sh rInt inferInstance Pt.nil))) (fun (a : (Int × Int × Int × Unit)) => m_law_some a.1 a.2.1 a.2.2.1) (fun b => sL (rLst rTx) b))) {a__law_entries : Addr} {d__law_entries : FuncData} (C__law_entries : Cal K mg "_law_entries" a__law_entries d__law_entries ["_law_rules_here"]) (G__law_entries : FnOk P w K mg base (L2.CX P w) 1 a__law_entries d__law_entries ["_law_rules_here"] (spR xt (Pt.cons .bo (rLst (rLst rTx)) inferInstance Pt.nil) (fun (a : ((List (List (List Nat))) × Unit)) => m_law_entries a.1) (fun b => sL (rPr rInt rTx) b))) {a__law_shuffled : Addr} {d__law_shuffled : FuncData} (C__law_shuffled : Cal K mg "_law_shuffled" a__law_shuffled d__law_shuffled ["_law_row", "_law_numbers_here"]) (G__law_shuffled : FnOk P w K mg base (L2.CX P w) 1 a__law_shuffled d__law_shuffled ["_law_row", "_law_numbers_here"] (spR xt (Pt.cons .sh (rLst (rPr rInt rTx)) inferInstance (Pt.cons .sh (rLst rInt) inferInstance Pt.nil)) (fun (a : ((List (Int × (List Nat))) × (List Int) × Unit)) => m_law_shuffled a.1 a.2.1) (fun b => sL (rPr rInt rTx) b))) {a_Book___init__ : Addr} {d_Book___init__ : FuncData} (C_Book___init__ : CalIK K mg (xt.cls 100) a_Book___init__ "Book" d_Book___init__ ["self", "size", "entries"] [V.ref (xt.cls 101)] 1 ["entries"]) (G_Book___init__ : FnOk P w K mg base (L2.CX P w) 3 a_Book___init__ d_Book___init__ ["self", "size", "entries"] (spM xt (m0 (xt.cls 100)) (Pt.cons .sh rInt inferInstance (Pt.cons .bo (rSq K (rPr rInt rTx)) inferInstance Pt.nil)) (fun (g : Unit) (a : (Int × (List (Int × (List Nat))) × Unit)) => m_Book_init a.1 a.2.1) (fun o d => sO (mB (xt.cls 100) "rules" (rDk rTx rBl) o d)) (fun _ (_ : Unit) => .no))) {a__law_same : Addr} {d__law_same : FuncData} (C__law_same : Cal K mg "_law_same" a__law_same d__law_same ["_law_actual", "_law_due"]) (G__law_same : FnOk P w K mg base CX0 5 a__law_same d__law_same ["_law_actual", "_law_due"] (spSame 4)) {a_Book_size : Addr} {d_Book_size : FuncData} (C_Book_size : CalP K (xt.cls 100) "size" a_Book_size d_Book_size ["self"]) (G_Book_size : FnOk P w K mg base (L2.CX P w) 1 a_Book_size d_Book_size ["self"] (spR xt (Pt.cons .bo (rI1 (xt.cls 100) "rules" (rLst (rDk rTx rBl))) inferInstance Pt.nil) (fun (a : ((List (List ((List Nat) × Bool))) × Unit)) => m_Book_size a.1) (fun b => sF rInt b))) {a_Book_entries : Addr} {d_Book_entries : FuncData} (C_Book_entries : CalM K (xt.cls 100) "entries" a_Book_entries d_Book_entries ["self"]) (G_Book_entries : GFn P w K mg base 4 a_Book_entries d_Book_entries ["self"] (spG (Pt.cons .bo (rI1 (xt.cls 100) "rules" (rLst (rDk rTx rBl))) inferInstance Pt.nil) (fun (zs : List (Int × (List Nat))) (a : ((List (List ((List Nat) × Bool))) × Unit)) => m_Book_entries_z zs a.1) (rPr rInt rTx))) {a_Book___getitem__ : Addr} {d_Book___getitem__ : FuncData} (C_Book___getitem__ : CalO K (xt.cls 100) "__getitem__" a_Book___getitem__ d_Book___getitem__ ["self", "item"]) (G_Book___getitem__ : FnOk P w K mg base (L2.CX P w) 4 a_Book___getitem__ d_Book___getitem__ ["self", "item"] (spR xt (Pt.cons .bo (rI1 (xt.cls 100) "rules" (rLst (rDk rTx rBl))) inferInstance (Pt.cons .sh rInt inferInstance Pt.nil)) (fun (a : ((List (List ((List Nat) × Bool))) × Int × Unit)) => m_Book_getitem a.1 a.2.1) (fun b => sL rTx b))) {a__law_bad_state : Addr} {d__law_bad_state : FuncData} (C__law_bad_state : Cal K mg "_law_bad_state" a__law_bad_state d__law_bad_state ["_law_size", "_law_item", "_law_numbers_here"]) (G__law_bad_state : FnOk P w K mg base (L2.CX P w) 1 a__law_bad_state d__law_bad_state ["_law_size", "_law_item", "_law_numbers_here"] (spR xt (Pt.cons .sh rInt inferInstance (Pt.cons .sh rInt inferInstance (Pt.cons .sh (rLst rInt) inferInstance Pt.nil))) (fun (a : (Int × Int × (List Int) × Unit)) => m_law_bad_state a.1 a.2.1 a.2.2.1) (fun b => sF rTx b))) {a__law_told : Addr} {d__law_told : FuncData} (C__law_told : Cal K mg "_law_told" a__law_told d__law_told ["_law_size", "_law_rows"]) (G__law_told : FnOk P w K mg base (L2.CX P w) 5 a__law_told d__law_told ["_law_size", "_law_rows"] (spR xt (Pt.cons .sh rInt inferInstance (Pt.cons .sh (rLst (rPr rInt rTx)) inferInstance Pt.nil)) (fun (a : (Int × (List (Int × (List Nat))) × Unit)) => m_law_told a.1 a.2.1) (fun b => sF rDt b))) : FnOk P w K mg base (L2.CX P w) 8 fa fd ["_law_script"] (spR xt (Pt.cons .bo (rScr K) inferInstance Pt.nil) (fun (a : ((List Int) × Unit)) => m_law a.1) (fun b => sF rBl b)) := by
  refine ok_R (S' := Unit) 13 Fn sc_m_law rfl rfl (fun _ => .no) (fun _ _ h => nomatch h) (fun _ _ h => nomatch h) (fun cdv A outer s0 H E0_ hr a => ?_)
  obtain ⟨v_law_script, ⟨⟩⟩ := a
  refine ⟨fun _ => List.replicate 14 .no, _, (xb_set 1 (fun v_law_plan1 => [sB (rScr K) v_law_script, sF (rLst rInt) v_law_plan1, .no, .no, .no, .no, .no, .no, .no, .no, .no, .no, .no, .no]) () (lw_nos rfl) (xn (xfz (xcall C__law_numbers G__law_numbers hr (xa_cons (xsh (xcall C__law_cell G__law_cell hr (xa_cons (xbo (xvb 0)) (xa_cons xint xa_nil)))) (xa_cons xint (xa_cons xint xa_nil)))))) (fun _ => rfl) (fun v_law_plan1 =>
(xb_set 2 (fun v_law_size1 => [sB (rScr K) v_law_script, sF (rLst rInt) v_law_plan1, sF rInt v_law_size1, .no, .no, .no, .no, .no, .no, .no, .no, .no, .no, .no]) () (lw_nos rfl) (xn (xixL (xfz (xn_lst (r := rInt) (xl_cons xint (xl_cons xint (xl_cons xint (xl_cons xint (xl_cons xint (xl_cons xint (xl_cons xint (xl_cons xint (xl_cons xint (xl_cons xint (xl_cons xint (xl_cons xint xl_nil)))))))))))))) (xixL (xv 1) xint))) (fun _ => rfl) (fun v_law_size1 =>
(xb_set 3 (fun v_law_rules_here1 => [sB (rScr K) v_law_script, sF (rLst rInt) v_law_plan1, sF rInt v_law_size1, sF (rLst (rLst rTx)) v_law_rules_here1, .no, .no, .no, .no, .no, .no, .no, .no, .no, .no]) () (lw_nos rfl) (xn (xfz (xcall C__law_some G__law_some hr (xa_cons (xsh (xcall C__law_cell G__law_cell hr (xa_cons (xbo (xvb 0)) (xa_cons xint xa_nil)))) (xa_cons (xv 2) (xa_cons (xmod (xixL (xv 1) xint) xint) xa_nil)))))) (fun _ => rfl) (fun v_law_rules_here1 =>
(xb_set 4 (fun v_law_numbers_here1 => [sB (rScr K) v_law_script, sF (rLst rInt) v_law_plan1, sF rInt v_law_size1, sF (rLst (rLst rTx)) v_law_rules_here1, sF (rLst rInt) v_law_numbers_here1, .no, .no, .no, .no, .no, .no, .no, .no, .no]) () (lw_nos rfl) (xn (xfz (xcall C__law_numbers G__law_numbers hr (xa_cons (xsh (xcall C__law_cell G__law_cell hr (xa_cons (xbo (xvb 0)) (xa_cons xint xa_nil)))) (xa_cons xint (xa_cons xint xa_nil)))))) (fun _ => rfl) (fun v_law_numbers_here1 =>
(xb_set 5 (fun v_law_due1 => [sB (rScr K) v_law_script, sF (rLst rInt) v_law_plan1, sF rInt v_law_size1, sF (rLst (rLst rTx)) v_law_rules_here1, sF (rLst rInt) v_law_numbers_here1, sF (rLst (rPr rInt rTx)) v_law_due1, .no, .no, .no, .no, .no, .no, .no, .no]) () (lw_nos rfl) (xn (xfz (xcall C__law_entries G__law_entries hr (xa_cons (xbo (xv 3)) xa_nil)))) (fun _ => rfl) (fun v_law_due1 =>
(xb_set 6 (fun v_law_rows1 => [sB (rScr K) v_law_script, sF (rLst rInt) v_law_plan1, sF rInt v_law_size1, sF (rLst (rLst rTx)) v_law_rules_here1, sF (rLst rInt) v_law_numbers_here1, sF (rLst (rPr rInt rTx)) v_law_due1, sF (rLst (rPr rInt rTx)) v_law_rows1, .no, .no, .no, .no, .no, .no, .no]) () (lw_nos rfl) (xn (xfz (xcall C__law_shuffled G__law_shuffled hr (xa_cons (xfz (xcatL (xv 5) (xfz (xslL (xv 5) xo_none (xo_some (xixL (xv 1) xint)))))) (xa_cons (xv 4) xa_nil))))) (fun _ => rfl) (fun v_law_rows1 =>
(xb_set 7 (fun v_law_given1 => [sB (rScr K) v_law_script, sF (rLst rInt) v_law_plan1, sF rInt v_law_size1, sF (rLst (rLst rTx)) v_law_rules_here1, sF (rLst rInt) v_law_numbers_here1, sF (rLst (rPr rInt rTx)) v_law_due1, sF (rLst (rPr rInt rTx)) v_law_rows1, sL (rPr rInt rTx) v_law_given1, .no, .no, .no, .no, .no, .no]) () (lw_nos rfl) (xlistL (xv 6) B.z_list) (fun _ => rfl) (fun v_law_given1 =>
(xb_set 8 (fun v_law_book1 => [sB (rScr K) v_law_script, sF (rLst rInt) v_law_plan1, sF rInt v_law_size1, sF (rLst (rLst rTx)) v_law_rules_here1, sF (rLst rInt) v_law_numbers_here1, sF (rLst (rPr rInt rTx)) v_law_due1, sF (rLst (rPr rInt rTx)) v_law_rows1, sL (rPr rInt rTx) v_law_given1, sF (rI1 (xt.cls 100) "rules" (rLst (rDk rTx rBl))) v_law_book1, .no, .no, .no, .no, .no]) () (lw_nos rfl) (xn (xfz (xmk0 C_Book___init__.ci G_Book___init__ hr (xa_cons (xv 2) (xa_cons (xsqL (xvm (mu := mL (rPr rInt rTx)) 7)) xa_nil))))) (fun _ => rfl) (fun v_law_book1 =>
(xb_ifv (S := (List (List ((List Nat) × Bool)))) (slj := (fun s1 => [sB (rScr K) v_law_script, sF (rLst rInt) v_law_plan1, sF rInt v_law_size1, sF (rLst (rLst rTx)) v_law_rules_here1, sF (rLst rInt) v_law_numbers_here1, sF (rLst (rPr rInt rTx)) v_law_due1, sF (rLst (rPr rInt rTx)) v_law_rows1, sL (rPr rInt rTx) v_law_given1, sF (rI1 (xt.cls 100) "rules" (rLst (rDk rTx rBl))) s1, .no, .no, .no, .no, .no])) () (((mkR (m_Book_init v_law_size1 v_law_rows1))).bind fun v_law_book3 =>
(R.ok v_law_book3)) ((R.ok v_law_book1)) (lw_nos rfl) (xqc (xeq (xmod (xixL (xv 1) xint) xint) xint))
(xb_set 8 (fun v_law_book3 => [sB (rScr K) v_law_script, sF (rLst rInt) v_law_plan1, sF rInt v_law_size1, sF (rLst (rLst rTx)) v_law_rules_here1, sF (rLst rInt) v_law_numbers_here1, sF (rLst (rPr rInt rTx)) v_law_due1, sF (rLst (rPr rInt rTx)) v_law_rows1, sL (rPr rInt rTx) v_law_given1, sF (rI1 (xt.cls 100) "rules" (rLst (rDk rTx rBl))) v_law_book3, .no, .no, .no, .no, .no]) () (lw_nos rfl) (xn (xfz (xmkK C_Book___init__ G_Book___init__ hr (xa_cons (xv 2) xa_nil) (xw_cons (xsqU (xbo (xtupL (xv 6) B.z_tuple))) xw_nil)))) (fun _ => rfl) (fun v_law_book3 =>
(xb_nil v_law_book3 (by walk_at "lw"))))
(xb_nil v_law_book1 (by walk_at "lw")) (fun k => by first | (simp only [R.bindOk, R.bindEr, R.bindNo, R.thnOk, R.thnEr, R.thnNo, R.thn_id, R.bind_bind, R.thn_bind, R.bind_ok, R.cond_ok, R.noerOk, R.bind_thn, R.thn_thn, cond_true, cond_false, m_Book_entries]; done) | rfl) (fun k => by first | (simp only [R.bindOk, R.bindEr, R.bindNo, R.thnOk, R.thnEr, R.thnNo, R.thn_id, R.bind_bind, R.thn_bind, R.bind_ok, R.cond_ok, R.noerOk, R.bind_thn, R.thn_thn, cond_true, cond_false, m_Book_entries]; done) | rfl) (fun s1 =>
(xb_if (S := Unit) (slj := (fun s2 => [sB (rScr K) v_law_script, sF (rLst rInt) v_law_plan1, sF rInt v_law_size1, sF (rLst (rLst rTx)) v_law_rules_here1, sF (rLst rInt) v_law_numbers_here1, sF (rLst (rPr rInt rTx)) v_law_due1, sF (rLst (rPr rInt rTx)) v_law_rows1, sL (rPr rInt rTx) v_law_given1, sF (rI1 (xt.cls 100) "rules" (rLst (rDk rTx rBl))) s1, .no, .no, .no, .no, .no])) () (lw_nos rfl) (xqw (xqor (xqc (xned (r := (rLst (rPr rInt rTx))) (xvm (mu := mL (rPr rInt rTx)) 7) hr (xv 6))) (xqor1 (xqnot (xqv (xsame (r := rInt) C__law_same G__law_same hr (xsh (xprop (xbo (xv 8)) rI1_ins B.cl_Book.cl C_Book_size G_Book_size hr)) (xv 2)))))))
(xb_ret () (lw_nos rfl) (fun a => a) (fun _ => rfl) (xn xbl))
(xb_nil () (by walk_at "lw")) (fun s2 =>
(xb_clear (mk := mL (rPr rInt rTx)) 7 (fun v_law_given2 => [sB (rScr K) v_law_script, sF (rLst rInt) v_law_plan1, sF rInt v_law_size1, sF (rLst (rLst rTx)) v_law_rules_here1, sF (rLst rInt) v_law_numbers_here1, sF (rLst (rPr rInt rTx)) v_law_due1, sF (rLst (rPr rInt rTx)) v_law_rows1, sL (rPr rInt rTx) v_law_given2, sF (rI1 (xt.cls 100) "rules" (rLst (rDk rTx rBl))) s1, .no, .no, .no, .no, .no]) rfl (fun _ => rfl) (fun v_law_given2 =>
(xb_set 9 (fun v_law_told_here1 => [sB (rScr K) v_law_script, sF (rLst rInt) v_law_plan1, sF rInt v_law_size1, sF (rLst (rLst rTx)) v_law_rules_here1, sF (rLst rInt) v_law_numbers_here1, sF (rLst (rPr rInt rTx)) v_law_due1, sF (rLst (rPr rInt rTx)) v_law_rows1, sL (rPr rInt rTx) v_law_given2, sF (rI1 (xt.cls 100) "rules" (rLst (rDk rTx rBl))) s1, sL (rPr rInt rTx) v_law_told_here1, .no, .no, .no, .no]) () (lw_nos rfl) (xlistG (fn := fun zs (a : (List (List ((List Nat) × Bool))) × Unit) => m_Book_entries_z zs a.1) (xbo (xv 8)) (rI1_meth (by decide)) B.cl_Book.cl C_Book_entries.mt C_Book_entries.bi G_Book_entries hr (by rfl) B.z_list (by rfl)) (fun _ => rfl) (fun v_law_told_here1 =>
(xb_if (S := Unit) (slj := (fun s3 => [sB (rScr K) v_law_script, sF (rLst rInt) v_law_plan1, sF rInt v_law_size1, sF (rLst (rLst rTx)) v_law_rules_here1, sF (rLst rInt) v_law_numbers_here1, sF (rLst (rPr rInt rTx)) v_law_due1, sF (rLst (rPr rInt rTx)) v_law_rows1, sL (rPr rInt rTx) v_law_given2, sF (rI1 (xt.cls 100) "rules" (rLst (rDk rTx rBl))) s1, sL (rPr rInt rTx) v_law_told_here1, .no, .no, .no, .no])) () (lw_nos rfl) (xqnot (xqv (xsame (r := (rLst (rPr rInt rTx))) C__law_same G__law_same hr (xvm (mu := mL (rPr rInt rTx)) 9) (xv 5))))
(xb_ret () (lw_nos rfl) (fun a => a) (fun _ => rfl) (xn xbl))
(xb_nil () (by walk_at "lw")) (fun s3 =>
(xb_clear (mk := mL (rPr rInt rTx)) 9 (fun v_law_told_here2 => [sB (rScr K) v_law_script, sF (rLst rInt) v_law_plan1, sF rInt v_law_size1, sF (rLst (rLst rTx)) v_law_rules_here1, sF (rLst rInt) v_law_numbers_here1, sF (rLst (rPr rInt rTx)) v_law_due1, sF (rLst (rPr rInt rTx)) v_law_rows1, sL (rPr rInt rTx) v_law_given2, sF (rI1 (xt.cls 100) "rules" (rLst (rDk rTx rBl))) s1, sL (rPr rInt rTx) v_law_told_here2, .no, .no, .no, .no]) rfl (fun _ => rfl) (fun v_law_told_here2 =>
(xb_for (T := Unit) (m_law_b1 v_law_rules_here1 s1) (fun t1 => [sB (rScr K) v_law_script, sF (rLst rInt) v_law_plan1, sF rInt v_law_size1, sF (rLst (rLst rTx)) v_law_rules_here1, sF (rLst rInt) v_law_numbers_here1, sF (rLst (rPr rInt rTx)) v_law_due1, sF (rLst (rPr rInt rTx)) v_law_rows1, sL (rPr rInt rTx) v_law_given2, sF (rI1 (xt.cls 100) "rules" (rLst (rDk rTx rBl))) s1, sL (rPr rInt rTx) v_law_told_here2, .no, .no, .no, .no]) () () (lw_nos rfl) (by walk_at "lw") cnD_po (xi_rng (xv 2) B.z_range) (xg_name 10) (fun t1 x1 => [sB (rScr K) v_law_script, sF (rLst rInt) v_law_plan1, sF rInt v_law_size1, sF (rLst (rLst rTx)) v_law_rules_here1, sF (rLst rInt) v_law_numbers_here1, sF (rLst (rPr rInt rTx)) v_law_due1, sF (rLst (rPr rInt rTx)) v_law_rows1, sL (rPr rInt rTx) v_law_given2, sF (rI1 (xt.cls 100) "rules" (rLst (rDk rTx rBl))) s1, sL (rPr rInt rTx) v_law_told_here2, sF rInt x1, .no, .no, .no]) (fun _ _ => rfl) (fun t1 x1 => XB.cast
(xb_if () (lw_nos rfl) (xqnot (xqv (xsame (r := (rLst rTx)) C__law_same G__law_same hr (xfz (xownGet (xbo (xv 8)) (xv 10) rI1_ins C_Book___getitem__.ow C_Book___getitem__.fn C_Book___getitem__.bi G_Book___getitem__ hr)) (xixL (xv 3) (xv 10)))))
(xb_ret () (lw_nos rfl) (fun a => a) (fun _ => rfl) (xn xbl))
(xb_nil () (by walk_at "lw")) (fun s => xb_nil s (Lw.refl _))) (fun k => by unfold m_law_b1; first | (simp only [R.bindOk, R.bindEr, R.bindNo, R.thnOk, R.thnEr, R.thnNo, R.thn_id, R.bind_bind, R.thn_bind, R.bind_ok, R.cond_ok, R.noerOk, R.bind_thn, R.thn_thn, cond_true, cond_false, m_Book_entries]; done) | rfl)) (fun t2 =>
(xb_if (S := Unit) (slj := (fun s4 => [sB (rScr K) v_law_script, sF (rLst rInt) v_law_plan1, sF rInt v_law_size1, sF (rLst (rLst rTx)) v_law_rules_here1, sF (rLst rInt) v_law_numbers_here1, sF (rLst (rPr rInt rTx)) v_law_due1, sF (rLst (rPr rInt rTx)) v_law_rows1, sL (rPr rInt rTx) v_law_given2, sF (rI1 (xt.cls 100) "rules" (rLst (rDk rTx rBl))) s1, sL (rPr rInt rTx) v_law_told_here2, .no, .no, .no, .no])) () (lw_nos rfl) (xqw (xqor (xqc (xned (r := (rLst (rPr rInt rTx))) (xfz (xlistG (fn := fun zs (a : (List (List ((List Nat) × Bool))) × Unit) => m_Book_entries_z zs a.1) (xbo (xfz (xmk1 (fun b => (b.1, ([] : List (Int × (List Nat))), ())) C_Book___init__.ci G_Book___init__ hr (xa_cons (xv 2) xa_nil) (had1b B.df_Book)))) (rI1_meth (by decide)) B.cl_Book.cl C_Book_entries.mt C_Book_entries.bi G_Book_entries hr (by rfl) B.z_list (by rfl))) hr (xfz (xn_nil (r := (rPr rInt rTx)))))) (xqor1 (xqnot (xqv (xsame (r := (rLst (rPr rInt rTx))) C__law_same G__law_same hr (xfz (xlistG (fn := fun zs (a : (List (List ((List Nat) × Bool))) × Unit) => m_Book_entries_z zs a.1) (xbo (xv 8)) (rI1_meth (by decide)) B.cl_Book.cl C_Book_entries.mt C_Book_entries.bi G_Book_entries hr (by rfl) B.z_list (by rfl))) (xv 5)))))))
(xb_ret () (lw_nos rfl) (fun a => a) (fun _ => rfl) (xn xbl))
(xb_nil () (by walk_at "lw")) (fun s4 =>
(xb_set 10 (fun v_law_item2 => [sB (rScr K) v_law_script, sF (rLst rInt) v_law_plan1, sF rInt v_law_size1, sF (rLst (rLst rTx)) v_law_rules_here1, sF (rLst rInt) v_law_numbers_here1, sF (rLst (rPr rInt rTx)) v_law_due1, sF (rLst (rPr rInt rTx)) v_law_rows1, sL (rPr rInt rTx) v_law_given2, sF (rI1 (xt.cls 100) "rules" (rLst (rDk rTx rBl))) s1, sL (rPr rInt rTx) v_law_told_here2, sF rInt v_law_item2, .no, .no, .no]) () (lw_nos rfl) (xn (xmod (xixL (xv 1) xint) (xv 2))) (fun _ => rfl) (fun v_law_item2 =>
(xb_set 11 (fun v_law_bad1 => [sB (rScr K) v_law_script, sF (rLst rInt) v_law_plan1, sF rInt v_law_size1, sF (rLst (rLst rTx)) v_law_rules_here1, sF (rLst rInt) v_law_numbers_here1, sF (rLst (rPr rInt rTx)) v_law_due1, sF (rLst (rPr rInt rTx)) v_law_rows1, sL (rPr rInt rTx) v_law_given2, sF (rI1 (xt.cls 100) "rules" (rLst (rDk rTx rBl))) s1, sL (rPr rInt rTx) v_law_told_here2, sF rInt v_law_item2, sF rTx v_law_bad1, .no, .no]) () (lw_nos rfl) (xn (xsh (xcall C__law_bad_state G__law_bad_state hr (xa_cons (xv 2) (xa_cons (xv 10) (xa_cons (xfz (xcatL (xfz (xnlc (xlc [("_law_k", 13)] (fun x2 => [sB (rScr K) v_law_script, sF (rLst rInt) v_law_plan1, sF rInt v_law_size1, sF (rLst (rLst rTx)) v_law_rules_here1, sF (rLst rInt) v_law_numbers_here1, sF (rLst (rPr rInt rTx)) v_law_due1, sF (rLst (rPr rInt rTx)) v_law_rows1, sL (rPr rInt rTx) v_law_given2, sF (rI1 (xt.cls 100) "rules" (rLst (rDk rTx rBl))) s1, sL (rPr rInt rTx) v_law_told_here2, sF rInt v_law_item2, .no, .no, sF rInt x2]) (xi_rng (xv 2) B.z_range) (fun _ _ _ _ _ => (xg_name 13)) (fun _ => rfl) (fun _ _ _ _ _ x2 => xqs0) (fun _ _ _ _ _ x2 => xint) (ok := (by decide +kernel : blkC ["_law_script", "_law_plan", "_law_size", "_law_rules_here", "_law_numbers_here", "_law_due", "_law_rows", "_law_given", "_law_book", "_law_told_here", "_law_item", "_law_bad", "_law_place", "_law_k"] (defScope st_m_law) _ [("_law_k", 13)] = true))))) (xfz (xn_lst (r := rInt) (xl_cons (xmod (xixL (xv 1) xint) xint) (xl_cons (xixL (xv 1) xint) (xl_cons (xixL (xv 1) xint) xl_nil))))))) xa_nil)))))) (fun _ => rfl) (fun v_law_bad1 =>
(xb_set 12 (fun v_law_place1 => [sB (rScr K) v_law_script, sF (rLst rInt) v_law_plan1, sF rInt v_law_size1, sF (rLst (rLst rTx)) v_law_rules_here1, sF (rLst rInt) v_law_numbers_here1, sF (rLst (rPr rInt rTx)) v_law_due1, sF (rLst (rPr rInt rTx)) v_law_rows1, sL (rPr rInt rTx) v_law_given2, sF (rI1 (xt.cls 100) "rules" (rLst (rDk rTx rBl))) s1, sL (rPr rInt rTx) v_law_told_here2, sF rInt v_law_item2, sF rTx v_law_bad1, sF rInt v_law_place1, .no]) () (lw_nos rfl) (xn (xmod (xixL (xv 1) xint) (xadd (xlenL (xv 6) B.z_len) xint))) (fun _ => rfl) (fun v_law_place1 =>
(xb_set 6 (fun v_law_rows2 => [sB (rScr K) v_law_script, sF (rLst rInt) v_law_plan1, sF rInt v_law_size1, sF (rLst (rLst rTx)) v_law_rules_here1, sF (rLst rInt) v_law_numbers_here1, sF (rLst (rPr rInt rTx)) v_law_due1, sF (rLst (rPr rInt rTx)) v_law_rows2, sL (rPr rInt rTx) v_law_given2, sF (rI1 (xt.cls 100) "rules" (rLst (rDk rTx rBl))) s1, sL (rPr rInt rTx) v_law_told_here2, sF rInt v_law_item2, sF rTx v_law_bad1, sF rInt v_law_place1, .no]) () (lw_nos rfl) (xn (xfz (xcatL (xfz (xcatL (xfz (xcatL (xfz (xslL (xv 6) xo_none (xo_some (xv 12)))) (xfz (xn_lst (r := (rPr rInt rTx)) (xl_cons (xpr (xv 10) (xv 11)) xl_nil))))) (xfz (xslL (xv 6) (xo_some (xv 12)) xo_none)))) (xfz (xn_lst (r := (rPr rInt rTx)) (xl_cons (xpr (xv 10) (xcat (xv 11) (xtx [63]))) xl_nil)))))) (fun _ => rfl) (fun v_law_rows2 =>
(xb_if (S := Unit) (slj := (fun s5 => [sB (rScr K) v_law_script, sF (rLst rInt) v_law_plan1, sF rInt v_law_size1, sF (rLst (rLst rTx)) v_law_rules_here1, sF (rLst rInt) v_law_numbers_here1, sF (rLst (rPr rInt rTx)) v_law_due1, sF (rLst (rPr rInt rTx)) v_law_rows2, sL (rPr rInt rTx) v_law_given2, sF (rI1 (xt.cls 100) "rules" (rLst (rDk rTx rBl))) s1, sL (rPr rInt rTx) v_law_told_here2, sF rInt v_law_item2, sF rTx v_law_bad1, sF rInt v_law_place1, .no])) () (lw_nos rfl) (xqnot (xqv (xsameD C__law_same G__law_same hr (xsh (xcall C__law_told G__law_told hr (xa_cons (xv 2) (xa_cons (xv 6) xa_nil)))) (xdt (xpr (xtx [115, 116, 97, 116, 101]) (xv 11))))))
(xb_ret () (lw_nos rfl) (fun a => a) (fun _ => rfl) (xn xbl))
(xb_nil () (by walk_at "lw")) (fun s5 =>
(xb_ret () (lw_nos rfl) (fun a => a) (fun _ => rfl) (xn (xsameD C__law_same G__law_same hr (xsh (xcall C__law_told G__law_told hr (xa_cons (xv 2) (xa_cons (xfz (xcatL (xv 6) (xfz (xn_lst (r := (rPr rInt rTx)) (xl_cons (xpr (xadd (xv 2) (xixL (xv 1) xint)) (xv 11)) xl_nil))))) xa_nil)))) (xdt (xpr (xtx [105, 116, 101, 109]) (xadd (xv 2) (xixL (xv 1) xint))))))))))))))))))))))))))))))))))))))))))))))))), ?_⟩
  all_goals (show _ = m_law v_law_script; unfold m_law; first | (simp only [R.bindOk, R.bindEr, R.bindNo, R.thnOk, R.thnEr, R.thnNo, R.thn_id, R.bind_bind, R.thn_bind, R.bind_ok, R.cond_ok, R.noerOk, R.bind_thn, R.thn_thn, cond_true, cond_false, m_Book_entries]; done) | rfl)
end
end Zk08
namespace Zk08
open PySem L2 LK LKX LKB LJ LG PyProof.Rows PySem.Spec
abbrev in_BadSize : Stmt := inClass (top 6) 0
set_option maxHeartbeats 4000000 in
theorem ini_BadSize {P : Program} {w : World} {K : PySem.W.Frag} {mg : Str → Option Value} {C fI cda cc : Addr} (S : SupC P K mg C fI "__init__" "BadSize.__init__" (defArgs in_BadSize) (defBody in_BadSize) (defScope in_BadSize) cda cc) (hno : PySem.W.findIn K (.ref C) "count" = some none) : Ini1 P w K mg C fI "count" :=
  fun A Rr h g d t os e t0 u X gl bl lim room he hke hq => init1 (s0 := .Pass ⟨0, 0, 0, 0⟩) S X gl bl lim room he hke (fun kV doc pm an ct => .of_eq rfl) rfl rfl (by decide) rfl rfl rfl rfl rfl (by decide +kernel) rfl rfl hno (fun L => rfl) (fun L => rfl) (fun L => rfl) (fun L => rfl) (fun L => rfl) (by decide) (by decide) hq
abbrev in_BadItem : Stmt := inClass (top 7) 0
set_option maxHeartbeats 4000000 in
theorem ini_BadItem {P : Program} {w : World} {K : PySem.W.Frag} {mg : Str → Option Value} {C fI cda cc : Addr} (S : SupC P K mg C fI "__init__" "BadItem.__init__" (defArgs in_BadItem) (defBody in_BadItem) (defScope in_BadItem) cda cc) (hno : PySem.W.findIn K (.ref C) "item" = some none) : Ini1 P w K mg C fI "item" :=
  fun A Rr h g d t os e t0 u X gl bl lim room he hke hq => init1 (s0 := .Pass ⟨0, 0, 0, 0⟩) S X gl bl lim room he hke (fun kV doc pm an ct => .of_eq rfl) rfl rfl (by decide) rfl rfl rfl rfl rfl (by decide +kernel) rfl rfl hno (fun L => rfl) (fun L => rfl) (fun L => rfl) (fun L => rfl) (fun L => rfl) (by decide) (by decide) hq
abbrev in_BadState : Stmt := inClass (top 8) 0
set_option maxHeartbeats 4000000 in
theorem ini_BadState {P : Program} {w : World} {K : PySem.W.Frag} {mg : Str → Option Value} {C fI cda cc : Addr} (S : SupC P K mg C fI "__init__" "BadState.__init__" (defArgs in_BadState) (defBody in_BadState) (defScope in_BadState) cda cc) (hno : PySem.W.findIn K (.ref C) "state" = some none) : Ini1 P w K mg C fI "state" :=
  fun A Rr h g d t os e t0 u X gl bl lim room he hke hq => init1 (s0 := .Pass ⟨0, 0, 0, 0⟩) S X gl bl lim room he hke (fun kV doc pm an ct => .of_eq rfl) rfl rfl (by decide) rfl rfl rfl rfl rfl (by decide +kernel) rfl rfl hno (fun L => rfl) (fun L => rfl) (fun L => rfl) (fun L => rfl) (fun L => rfl) (by decide) (by decide) hq
def spLaw (K : PySem.W.Frag) : Sp := fun vs H Q _ => ∃ (a : Addr) (ns : List Int), vs = [.ref a] ∧ SqL K H a (ns.map V.int) ∧ ns.length ≤ 63 ∧ ∀ H', Q (.bl true) H'
theorem law_imp {K : PySem.W.Frag} {xt : XT} (ht : ∀ ns : List Int, ns.length ≤ 63 → m_law ns = .ok true) : ∀ vs H Q E, spLaw K vs H Q E → (spR xt (Pt.cons .bo (rScr K) inferInstance Pt.nil) (fun (a : ((List Int) × Unit)) => m_law a.1) (fun b => sF rBl b)) vs H Q E := by
  rintro vs H Q E ⟨a, ns, rfl, hS, hl, q⟩
  refine ⟨H, (ns, ()), Ex.refl H, ⟨_, [], rfl, ⟨a, rfl, hS⟩, rfl⟩, ?_, fun b hb v F' H' g => ?_, fun er he => ?_⟩
  · show m_law ns ≠ _
    rw [ht ns hl]; exact fun z => nomatch z
  · have hb : m_law ns = .ok b := hb
    rw [ht ns hl] at hb; cases hb
    obtain ⟨v', e, ok⟩ := g.fz_at (i := 0) rfl
    cases Option.some.inj (Option.some.inj e)
    rw [show _ = _ from ok]; exact q H'
  · have he : m_law ns = .er er := he
    rw [ht ns hl] at he; cases he
set_option maxHeartbeats 8000000 in
theorem all_mk {l : PySem.W.OpenLaw} (hprog : l.prog = PySem.Challenge.pw_lockrules_k08_books_of_entries) {w : World} {K : PySem.W.Frag} {h : Heap} {mg : Str → Option Value} {fa kB tT eT f0 f1 f2 f3 f4 f5 f6 f7 f8 f9 f10 f11 f12 f13 f14 f15 f16 f17 f18 f19 f20 f21 f22 e4 e5 e6 fi4 cda4 cc4 fi5 cda5 cc5 fi6 cda6 cc6 : Addr} (ht : ∀ ns : List Int, ns.length ≤ 63 → m_law ns = .ok true) (X : K.In h) (G : h.Ns mainGlobals mg) (hfa : mg "law" = some (.ref fa))
    {pp6 : Addr} {cr6 : List Value}
    {nT nE : Nat} {oTc : Value} {oTd oEd : Option Addr} {oTs oEs : Array (Option Value)}
    {od0 an0 od1 an1 od2 an2 od3 an3 od4 an4 od5 an5 od6 an6 od7 an7 od8 an8 od9 an9 od10 an10 od11 an11 od12 an12 od13 an13 od14 an14 od15 an15 od16 an16 od17 an17 od18 an18 od19 an19 od20 an20 od21 an21 od22 an22 : Option Addr} {sl0 sl1 sl2 sl3 sl4 sl5 sl6 sl7 sl8 sl9 sl10 sl11 sl12 sl13 sl14 sl15 sl16 sl17 sl18 sl19 sl20 sl21 sl22 : Array (Option Value)} {oc0 kV0 dc0 pm0 cd0 ct0 oc1 kV1 dc1 pm1 cd1 ct1 oc2 kV2 dc2 pm2 cd2 ct2 oc3 kV3 dc3 pm3 cd3 ct3 oc4 kV4 dc4 pm4 cd4 ct4 oc5 kV5 dc5 pm5 cd5 ct5 oc6 kV6 dc6 pm6 cd6 ct6 oc7 kV7 dc7 pm7 cd7 ct7 oc8 kV8 dc8 pm8 cd8 ct8 oc9 kV9 dc9 pm9 cd9 ct9 oc10 kV10 dc10 pm10 cd10 ct10 oc11 kV11 dc11 pm11 cd11 ct11 oc12 kV12 dc12 pm12 cd12 ct12 oc13 kV13 dc13 pm13 cd13 ct13 oc14 kV14 dc14 pm14 cd14 ct14 oc15 kV15 dc15 pm15 cd15 ct15 oc16 kV16 dc16 pm16 cd16 ct16 oc17 kV17 dc17 pm17 cd17 ct17 oc18 kV18 dc18 pm18 cd18 ct18 oc19 kV19 dc19 pm19 cd19 ct19 oc20 kV20 dc20 pm20 cd20 ct20 oc21 kV21 dc21 pm21 cd21 ct21 oc22 kV22 dc22 pm22 cd22 ct22 : Value}
    {nm4 q4 : Str} {N4 : Addr} {bs4 bm4 sub4 : List Value} {sn4 : List Str} {ab4 : Bool} {col4 : Option Bool} {dd4 : Option Addr} {kq0_4 kq1_4 kq2_4 kq3_4 kq5_4 : Option Value}
    {io4 ik4 id4 ip4 it4 ic4 il4 : Value} {ia4 ib4 icd4 ild4 : Option Addr} {is4 ics4 ils4 : Array (Option Value)} {vs4 : Array Value} {file4 : Str} {tf4 : Tok}
    {nm5 q5 : Str} {N5 : Addr} {bs5 bm5 sub5 : List Value} {sn5 : List Str} {ab5 : Bool} {col5 : Option Bool} {dd5 : Option Addr} {kq0_5 kq1_5 kq2_5 kq3_5 kq5_5 : Option Value}
    {io5 ik5 id5 ip5 it5 ic5 il5 : Value} {ia5 ib5 icd5 ild5 : Option Addr} {is5 ics5 ils5 : Array (Option Value)} {vs5 : Array Value} {file5 : Str} {tf5 : Tok}
    {nm6 q6 : Str} {N6 : Addr} {bs6 bm6 sub6 : List Value} {sn6 : List Str} {ab6 : Bool} {col6 : Option Bool} {dd6 : Option Addr} {kq0_6 kq1_6 kq2_6 kq3_6 kq5_6 : Option Value}
    {io6 ik6 id6 ip6 it6 ic6 il6 : Value} {ia6 ib6 icd6 ild6 : Option Addr} {is6 ics6 ils6 : Array (Option Value)} {vs6 : Array Value} {file6 : Str} {tf6 : Tok}
    {tk_LARGEST : Tok}
    {tk_SIGNS : Tok}
    (gB : PySem.W.nsIn K mainGlobals "Book" = some (some (.ref kB)))
    (pB1 : PySem.W.plainGet K kB Str.empty = true)
    (pB2 : PySem.W.hasDictIn K kB = true)
    (pB3 : PySem.W.plainOver K kB = true)
    (pB4 : PySem.W.findIn K (.ref kB) "__setattr__" = some (some (.builtin "object.__setattr__")))
    (nB : PySem.W.findIn K (.ref kB) "rules" = some none)
    (qB : PySem.W.noSeq K kB = true)
    (mB1 : PySem.W.makesIn K kB = true)
    (mB2 : PySem.W.keepIn K (.ref kB) = true)
    (rB1 : PySem.W.readsIn K kB (.type "type") = true)
    (rB2 : PySem.W.specialIn K (.ref kB) "__getattribute__" = some (some (.builtin "type.__getattribute__")))
    (a0 : PySem.W.nsIn K mainGlobals "start" = some (some (.ref f0)))
    (l0 : K.lookup f0 = some ⟨oc0, od0, .func (PySem.W.fnOf "start" "start" (defArgs st_m_start) (defBody st_m_start) (defScope st_m_start) .none kV0 dc0 pm0 an0 cd0 ct0), sl0⟩) (c0 : PySem.W.codeIn K cd0 "start" = true) (k0 : PySem.W.keepIn K (.ref f0) = true)
    (a1 : PySem.W.nsIn K mainGlobals "all_states" = some (some (.ref f1)))
    (l1 : K.lookup f1 = some ⟨oc1, od1, .func (PySem.W.fnOf "all_states" "all_states" (defArgs st_m_all_states) (defBody st_m_all_states) (defScope st_m_all_states) .none kV1 dc1 pm1 an1 cd1 ct1), sl1⟩) (c1 : PySem.W.codeIn K cd1 "all_states" = true) (k1 : PySem.W.keepIn K (.ref f1) = true)
    (a2 : PySem.W.nsIn K mainGlobals "is_state" = some (some (.ref f2)))
    (l2 : K.lookup f2 = some ⟨oc2, od2, .func (PySem.W.fnOf "is_state" "is_state" (defArgs st_m_is_state) (defBody st_m_is_state) (defScope st_m_is_state) .none kV2 dc2 pm2 an2 cd2 ct2), sl2⟩) (c2 : PySem.W.codeIn K cd2 "is_state" = true) (k2 : PySem.W.keepIn K (.ref f2) = true)
    (a3 : PySem.W.nsIn K mainGlobals "check_item" = some (some (.ref f3)))
    (l3 : K.lookup f3 = some ⟨oc3, od3, .func (PySem.W.fnOf "check_item" "check_item" (defArgs st_m_check_item) (defBody st_m_check_item) (defScope st_m_check_item) .none kV3 dc3 pm3 an3 cd3 ct3), sl3⟩) (c3 : PySem.W.codeIn K cd3 "check_item" = true) (k3 : PySem.W.keepIn K (.ref f3) = true)
    (a4 : PySem.W.nsIn K mainGlobals "check_entry" = some (some (.ref f4)))
    (l4 : K.lookup f4 = some ⟨oc4, od4, .func (PySem.W.fnOf "check_entry" "check_entry" (defArgs st_m_check_entry) (defBody st_m_check_entry) (defScope st_m_check_entry) .none kV4 dc4 pm4 an4 cd4 ct4), sl4⟩) (c4 : PySem.W.codeIn K cd4 "check_entry" = true) (k4 : PySem.W.keepIn K (.ref f4) = true)
    (a5 : PySem.W.findIn K (.ref kB) "__init__" = some (some (.ref f5))) (ai5 : PySem.W.isFn K (.ref f5) = true) (af5 : PySem.W.fnIn K f5 = true)
    (l5 : K.lookup f5 = some ⟨oc5, od5, .func (PySem.W.fnOf "__init__" "Book.__init__" (defArgs st_m_Book_init) (defBody st_m_Book_init) (defScope st_m_Book_init) (.ref tT) kV5 dc5 pm5 an5 cd5 ct5), sl5⟩) (c5 : PySem.W.codeIn K cd5 "Book.__init__" = true) (k5 : PySem.W.keepIn K (.ref f5) = true)
    (a6 : PySem.W.findIn K (.ref kB) "size" = some (some (.ref pp6))) (as6 : PySem.W.specialIn K (.ref pp6) "__get__" = some (some (.builtin "property.__get__"))) (at6 : PySem.W.takesIn K (.ref pp6) = some true) (ar6 : PySem.W.recIn K pp6 "property" = some (.ref f6 :: cr6))
    (l6 : K.lookup f6 = some ⟨oc6, od6, .func (PySem.W.fnOf "size" "Book.size" (defArgs st_m_Book_size) (defBody st_m_Book_size) (defScope st_m_Book_size) .none kV6 dc6 pm6 an6 cd6 ct6), sl6⟩) (c6 : PySem.W.codeIn K cd6 "Book.size" = true) (k6 : PySem.W.keepIn K (.ref f6) = true)
    (a7 : PySem.W.findIn K (.ref kB) "__getitem__" = some (some (.ref f7))) (ai7 : PySem.W.isFn K (.ref f7) = true) (af7 : PySem.W.fnIn K f7 = true)
    (l7 : K.lookup f7 = some ⟨oc7, od7, .func (PySem.W.fnOf "__getitem__" "Book.__getitem__" (defArgs st_m_Book_getitem) (defBody st_m_Book_getitem) (defScope st_m_Book_getitem) .none kV7 dc7 pm7 an7 cd7 ct7), sl7⟩) (c7 : PySem.W.codeIn K cd7 "Book.__getitem__" = true) (k7 : PySem.W.keepIn K (.ref f7) = true)
    (a8 : PySem.W.findIn K (.ref kB) "entries" = some (some (.ref f8))) (ai8 : PySem.W.isFn K (.ref f8) = true) (af8 : PySem.W.fnIn K f8 = true)
    (l8 : K.lookup f8 = some ⟨oc8, od8, .func (PySem.W.fnOf "entries" "Book.entries" (defArgs st_m_Book_entries) (defBody st_m_Book_entries) (defScope st_m_Book_entries) .none kV8 dc8 pm8 an8 cd8 ct8), sl8⟩) (c8 : PySem.W.codeIn K cd8 "Book.entries" = true) (k8 : PySem.W.keepIn K (.ref f8) = true)
    (a9 : PySem.W.nsIn K mainGlobals "_law_cell" = some (some (.ref f9)))
    (l9 : K.lookup f9 = some ⟨oc9, od9, .func (PySem.W.fnOf "_law_cell" "_law_cell" (defArgs st_m_law_cell) (defBody st_m_law_cell) (defScope st_m_law_cell) .none kV9 dc9 pm9 an9 cd9 ct9), sl9⟩) (c9 : PySem.W.codeIn K cd9 "_law_cell" = true) (k9 : PySem.W.keepIn K (.ref f9) = true)
    (a10 : PySem.W.nsIn K mainGlobals "_law_numbers" = some (some (.ref f10)))
    (l10 : K.lookup f10 = some ⟨oc10, od10, .func (PySem.W.fnOf "_law_numbers" "_law_numbers" (defArgs st_m_law_numbers) (defBody st_m_law_numbers) (defScope st_m_law_numbers) .none kV10 dc10 pm10 an10 cd10 ct10), sl10⟩) (c10 : PySem.W.codeIn K cd10 "_law_numbers" = true) (k10 : PySem.W.keepIn K (.ref f10) = true)
    (a11 : PySem.W.nsIn K mainGlobals "_law_same" = some (some (.ref f11)))
    (l11 : K.lookup f11 = some ⟨oc11, od11, .func (PySem.W.fnOf "_law_same" "_law_same" (defArgs st_same) (defBody st_same) (defScope st_same) .none kV11 dc11 pm11 an11 cd11 ct11), sl11⟩) (c11 : PySem.W.codeIn K cd11 "_law_same" = true) (k11 : PySem.W.keepIn K (.ref f11) = true)
    (a12 : PySem.W.nsIn K mainGlobals "_law_states" = some (some (.ref f12)))
    (l12 : K.lookup f12 = some ⟨oc12, od12, .func (PySem.W.fnOf "_law_states" "_law_states" (defArgs st_m_law_states) (defBody st_m_law_states) (defScope st_m_law_states) .none kV12 dc12 pm12 an12 cd12 ct12), sl12⟩) (c12 : PySem.W.codeIn K cd12 "_law_states" = true) (k12 : PySem.W.keepIn K (.ref f12) = true)
    (a13 : PySem.W.nsIn K mainGlobals "_law_chance" = some (some (.ref f13)))
    (l13 : K.lookup f13 = some ⟨oc13, od13, .func (PySem.W.fnOf "_law_chance" "_law_chance" (defArgs st_m_law_chance) (defBody st_m_law_chance) (defScope st_m_law_chance) .none kV13 dc13 pm13 an13 cd13 ct13), sl13⟩) (c13 : PySem.W.codeIn K cd13 "_law_chance" = true) (k13 : PySem.W.keepIn K (.ref f13) = true)
    (a14 : PySem.W.nsIn K mainGlobals "_law_key" = some (some (.ref f14)))
    (l14 : K.lookup f14 = some ⟨oc14, od14, .func (PySem.W.fnOf "_law_key" "_law_key" (defArgs st_m_law_key) (defBody st_m_law_key) (defScope st_m_law_key) .none kV14 dc14 pm14 an14 cd14 ct14), sl14⟩) (c14 : PySem.W.codeIn K cd14 "_law_key" = true) (k14 : PySem.W.keepIn K (.ref f14) = true)
    (a15 : PySem.W.nsIn K mainGlobals "_law_rules" = some (some (.ref f15)))
    (l15 : K.lookup f15 = some ⟨oc15, od15, .func (PySem.W.fnOf "_law_rules" "_law_rules" (defArgs st_m_law_rules) (defBody st_m_law_rules) (defScope st_m_law_rules) .none kV15 dc15 pm15 an15 cd15 ct15), sl15⟩) (c15 : PySem.W.codeIn K cd15 "_law_rules" = true) (k15 : PySem.W.keepIn K (.ref f15) = true)
    (a16 : PySem.W.nsIn K mainGlobals "_law_thin" = some (some (.ref f16)))
    (l16 : K.lookup f16 = some ⟨oc16, od16, .func (PySem.W.fnOf "_law_thin" "_law_thin" (defArgs st_m_law_thin) (defBody st_m_law_thin) (defScope st_m_law_thin) .none kV16 dc16 pm16 an16 cd16 ct16), sl16⟩) (c16 : PySem.W.codeIn K cd16 "_law_thin" = true) (k16 : PySem.W.keepIn K (.ref f16) = true)
    (a17 : PySem.W.nsIn K mainGlobals "_law_some" = some (some (.ref f17)))
    (l17 : K.lookup f17 = some ⟨oc17, od17, .func (PySem.W.fnOf "_law_some" "_law_some" (defArgs st_m_law_some) (defBody st_m_law_some) (defScope st_m_law_some) .none kV17 dc17 pm17 an17 cd17 ct17), sl17⟩) (c17 : PySem.W.codeIn K cd17 "_law_some" = true) (k17 : PySem.W.keepIn K (.ref f17) = true)
    (a18 : PySem.W.nsIn K mainGlobals "_law_shuffled" = some (some (.ref f18)))
    (l18 : K.lookup f18 = some ⟨oc18, od18, .func (PySem.W.fnOf "_law_shuffled" "_law_shuffled" (defArgs st_m_law_shuffled) (defBody st_m_law_shuffled) (defScope st_m_law_shuffled) .none kV18 dc18 pm18 an18 cd18 ct18), sl18⟩) (c18 : PySem.W.codeIn K cd18 "_law_shuffled" = true) (k18 : PySem.W.keepIn K (.ref f18) = true)
    (a19 : PySem.W.nsIn K mainGlobals "_law_entries" = some (some (.ref f19)))
    (l19 : K.lookup f19 = some ⟨oc19, od19, .func (PySem.W.fnOf "_law_entries" "_law_entries" (defArgs st_m_law_entries) (defBody st_m_law_entries) (defScope st_m_law_entries) .none kV19 dc19 pm19 an19 cd19 ct19), sl19⟩) (c19 : PySem.W.codeIn K cd19 "_law_entries" = true) (k19 : PySem.W.keepIn K (.ref f19) = true)
    (a20 : PySem.W.nsIn K mainGlobals "_law_bad_state" = some (some (.ref f20)))
    (l20 : K.lookup f20 = some ⟨oc20, od20, .func (PySem.W.fnOf "_law_bad_state" "_law_bad_state" (defArgs st_m_law_bad_state) (defBody st_m_law_bad_state) (defScope st_m_law_bad_state) .none kV20 dc20 pm20 an20 cd20 ct20), sl20⟩) (c20 : PySem.W.codeIn K cd20 "_law_bad_state" = true) (k20 : PySem.W.keepIn K (.ref f20) = true)
    (a21 : PySem.W.nsIn K mainGlobals "_law_told" = some (some (.ref f21)))
    (l21 : K.lookup f21 = some ⟨oc21, od21, .func (PySem.W.fnOf "_law_told" "_law_told" (defArgs st_m_law_told) (defBody st_m_law_told) (defScope st_m_law_told) .none kV21 dc21 pm21 an21 cd21 ct21), sl21⟩) (c21 : PySem.W.codeIn K cd21 "_law_told" = true) (k21 : PySem.W.keepIn K (.ref f21) = true)
    (a22 : PySem.W.nsIn K mainGlobals "law" = some (some (.ref f22)))
    (l22 : K.lookup f22 = some ⟨oc22, od22, .func (PySem.W.fnOf "law" "law" (defArgs st_m_law) (defBody st_m_law) (defScope st_m_law) .none kV22 dc22 pm22 an22 cd22 ct22), sl22⟩) (c22 : PySem.W.codeIn K cd22 "law" = true) (k22 : PySem.W.keepIn K (.ref f22) = true)
    (lT : K.lookup tT = some ⟨oTc, oTd, .seq #[.ref eT] nT, oTs⟩)
    (lE : K.lookup eT = some ⟨.type "tuple", oEd, .seq #[] nE, oEs⟩)
    (ga4 : PySem.W.nsIn K mainGlobals "BadSize" = some (some (.ref e4)))
    (ga5 : PySem.W.nsIn K mainGlobals "BadItem" = some (some (.ref e5)))
    (ga6 : PySem.W.nsIn K mainGlobals "BadState" = some (some (.ref e6)))
    (xl4 : K.lookup e4 = some (excClassObj nm4 q4 e4 N4 bs4 bm4 true sn4 sub4 ab4 col4 dd4 kq0_4 kq1_4 kq2_4 kq3_4 kq5_4 "ValueError.__new__"))
    (xr4 : PySem.HandSPX.refsVE bm4 = true)
    (xs4 : PySem.W.findIn K (.ref e4) "__setattr__" = some (some (.builtin "object.__setattr__")))
    (xe4 : PySem.W.subIn K (.ref e4) (.type "BaseException") = some true)
    (xt4 : PySem.W.typeIn K (.ref e4) = some (.type "type"))
    (xk4 : PySem.W.keepIn K (.ref e4) = true)
    (xi4 : PySem.W.findIn K (.ref e4) "__init__" = some (some (.ref fi4)))
    (xj4 : PySem.W.typeIn K (.ref fi4) = some (.type "function"))
    (xf4 : K.lookup fi4 = some ⟨io4, ia4, .func (PySem.W.ksFn "__init__" "BadSize.__init__" (defArgs in_BadSize) (defBody in_BadSize) (defScope in_BadSize) .none ik4 id4 ip4 ib4 (.ref cda4) it4 cc4), is4⟩)
    (xc4 : PySem.W.codeIn K (.ref cda4) "BadSize.__init__" = true)
    (xm4 : K.lookup cda4 = some ⟨ic4, icd4, .fields vs4, ics4⟩)
    (xn4 : vs4[2]? = some (.str file4 tf4))
    (xo4 : ((PySem.Challenge.pw_lockrules_k08_books_of_entries.main.file : Str) == file4) = true)
    (xp4 : K.lookup cc4 = some ⟨il4, ild4, .cell (some (.ref e4)), ils4⟩)
    (xq4 : PySem.W.ks_superIn K e4 e4 "__init__" = some (some (.builtin "ValueError.__init__")))
    (xu4 : PySem.W.mroIn K e4 (.ref e4) = some true)
    (xv4 : PySem.W.subIn K (.ref e4) (.type "ValueError") = some true)
    (xw4 : PySem.W.findIn K (.ref e4) "count" = some none)
    (xA4 : PySem.W.findIn K (.ref e4) "__getattribute__" = some (some (.builtin "BaseException.__getattribute__")))
    (xB4 : PySem.W.findIn K (.ref e4) "__getattr__" = some none)
    (xC4 : PySem.W.hasDictIn K e4 = true)
    (xD4 : PySem.W.findIn K (.ref e4) "__class__" = some (some (.builtin "object.__class__")))
    (xE4 : PySem.W.mroIn K e4 (.type "object") = some true)
    (xl5 : K.lookup e5 = some (excClassObj nm5 q5 e5 N5 bs5 bm5 true sn5 sub5 ab5 col5 dd5 kq0_5 kq1_5 kq2_5 kq3_5 kq5_5 "ValueError.__new__"))
    (xr5 : PySem.HandSPX.refsVE bm5 = true)
    (xs5 : PySem.W.findIn K (.ref e5) "__setattr__" = some (some (.builtin "object.__setattr__")))
    (xe5 : PySem.W.subIn K (.ref e5) (.type "BaseException") = some true)
    (xt5 : PySem.W.typeIn K (.ref e5) = some (.type "type"))
    (xk5 : PySem.W.keepIn K (.ref e5) = true)
    (xi5 : PySem.W.findIn K (.ref e5) "__init__" = some (some (.ref fi5)))
    (xj5 : PySem.W.typeIn K (.ref fi5) = some (.type "function"))
    (xf5 : K.lookup fi5 = some ⟨io5, ia5, .func (PySem.W.ksFn "__init__" "BadItem.__init__" (defArgs in_BadItem) (defBody in_BadItem) (defScope in_BadItem) .none ik5 id5 ip5 ib5 (.ref cda5) it5 cc5), is5⟩)
    (xc5 : PySem.W.codeIn K (.ref cda5) "BadItem.__init__" = true)
    (xm5 : K.lookup cda5 = some ⟨ic5, icd5, .fields vs5, ics5⟩)
    (xn5 : vs5[2]? = some (.str file5 tf5))
    (xo5 : ((PySem.Challenge.pw_lockrules_k08_books_of_entries.main.file : Str) == file5) = true)
    (xp5 : K.lookup cc5 = some ⟨il5, ild5, .cell (some (.ref e5)), ils5⟩)
    (xq5 : PySem.W.ks_superIn K e5 e5 "__init__" = some (some (.builtin "ValueError.__init__")))
    (xu5 : PySem.W.mroIn K e5 (.ref e5) = some true)
    (xv5 : PySem.W.subIn K (.ref e5) (.type "ValueError") = some true)
    (xw5 : PySem.W.findIn K (.ref e5) "item" = some none)
    (xA5 : PySem.W.findIn K (.ref e5) "__getattribute__" = some (some (.builtin "BaseException.__getattribute__")))
    (xB5 : PySem.W.findIn K (.ref e5) "__getattr__" = some none)
    (xC5 : PySem.W.hasDictIn K e5 = true)
    (xD5 : PySem.W.findIn K (.ref e5) "__class__" = some (some (.builtin "object.__class__")))
    (xE5 : PySem.W.mroIn K e5 (.type "object") = some true)
    (xl6 : K.lookup e6 = some (excClassObj nm6 q6 e6 N6 bs6 bm6 true sn6 sub6 ab6 col6 dd6 kq0_6 kq1_6 kq2_6 kq3_6 kq5_6 "ValueError.__new__"))
    (xr6 : PySem.HandSPX.refsVE bm6 = true)
    (xs6 : PySem.W.findIn K (.ref e6) "__setattr__" = some (some (.builtin "object.__setattr__")))
    (xe6 : PySem.W.subIn K (.ref e6) (.type "BaseException") = some true)
    (xt6 : PySem.W.typeIn K (.ref e6) = some (.type "type"))
    (xk6 : PySem.W.keepIn K (.ref e6) = true)
    (xi6 : PySem.W.findIn K (.ref e6) "__init__" = some (some (.ref fi6)))
    (xj6 : PySem.W.typeIn K (.ref fi6) = some (.type "function"))
    (xf6 : K.lookup fi6 = some ⟨io6, ia6, .func (PySem.W.ksFn "__init__" "BadState.__init__" (defArgs in_BadState) (defBody in_BadState) (defScope in_BadState) .none ik6 id6 ip6 ib6 (.ref cda6) it6 cc6), is6⟩)
    (xc6 : PySem.W.codeIn K (.ref cda6) "BadState.__init__" = true)
    (xm6 : K.lookup cda6 = some ⟨ic6, icd6, .fields vs6, ics6⟩)
    (xn6 : vs6[2]? = some (.str file6 tf6))
    (xo6 : ((PySem.Challenge.pw_lockrules_k08_books_of_entries.main.file : Str) == file6) = true)
    (xp6 : K.lookup cc6 = some ⟨il6, ild6, .cell (some (.ref e6)), ils6⟩)
    (xq6 : PySem.W.ks_superIn K e6 e6 "__init__" = some (some (.builtin "ValueError.__init__")))
    (xu6 : PySem.W.mroIn K e6 (.ref e6) = some true)
    (xv6 : PySem.W.subIn K (.ref e6) (.type "ValueError") = some true)
    (xw6 : PySem.W.findIn K (.ref e6) "state" = some none)
    (xA6 : PySem.W.findIn K (.ref e6) "__getattribute__" = some (some (.builtin "BaseException.__getattribute__")))
    (xB6 : PySem.W.findIn K (.ref e6) "__getattr__" = some none)
    (xC6 : PySem.W.hasDictIn K e6 = true)
    (xD6 : PySem.W.findIn K (.ref e6) "__class__" = some (some (.builtin "object.__class__")))
    (xE6 : PySem.W.mroIn K e6 (.type "object") = some true)
    (y0 : PySem.W.nsIn K mainGlobals "super" = some none)
    (y1 : PySem.W.nsIn K cStatics "thirdparty.any" = some none)
    (y2 : PySem.W.specialIn K (.builtin "object.__class__") "__get__" = some (some (.builtin "getset_descriptor.__get__")))
    (y3 : PySem.W.takesIn K (.builtin "object.__class__") = some true)
    (hh4_5 : PySem.W.exmOne K (.ref e4) (.ref e5) = some false)
    (hh5_5 : PySem.W.exmOne K (.ref e5) (.ref e5) = some true)
    (hh6_5 : PySem.W.exmOne K (.ref e6) (.ref e5) = some false)
    (hh4_6 : PySem.W.exmOne K (.ref e4) (.ref e6) = some false)
    (hh5_6 : PySem.W.exmOne K (.ref e5) (.ref e6) = some false)
    (hh6_6 : PySem.W.exmOne K (.ref e6) (.ref e6) = some true)
    (cc_LARGEST : PySem.W.nsIn K mainGlobals "LARGEST" = some (some (.int 6 tk_LARGEST)))
    (cc_SIGNS : PySem.W.nsIn K mainGlobals "SIGNS" = some (some (.str ".hr" tk_SIGNS)))
    (z_range : PySem.W.nsIn K mainGlobals "range" = some none)
    (z_len : PySem.W.nsIn K mainGlobals "len" = some none)
    (z_all : PySem.W.nsIn K mainGlobals "all" = some none)
    (z_list : PySem.W.nsIn K mainGlobals "list" = some none)
    (z_int : PySem.W.nsIn K mainGlobals "int" = some none)
    (z_isinstance : PySem.W.nsIn K mainGlobals "isinstance" = some none)
    (z_bool : PySem.W.nsIn K mainGlobals "bool" = some none)
    (z_str : PySem.W.nsIn K mainGlobals "str" = some none)
    (z_tuple : PySem.W.nsIn K mainGlobals "tuple" = some none)
    (z_sorted : PySem.W.nsIn K mainGlobals "sorted" = some none)
    :
    ∃ fd : FuncData, (∀ (s : Shared) (v : Value), BindsTo s fd ⟨[v], []⟩ [("_law_script", v)]) ∧ ∀ base : Heap, K.In base → base.Ns mainGlobals mg → FnOk l.prog w K mg base (L2.CX l.prog w) 8 fa fd ["_law_script"] (spLaw K) := by
  rw [hprog]
  have e := hfa.symm.trans (PySem.W.mg_of X G a22)
  cases e
  let xt : XT := ⟨fun k => if k = 4 then e4 else if k = 5 then e5 else if k = 6 then e6 else if k = 100 then kB else if k = 101 then eT else 0, fun k => if k = 4 then ["count"] else if k = 5 then ["item"] else if k = 6 then ["state"] else []⟩
  have ox4 : OexC K e4 := ⟨⟨nm4, q4, N4, bs4, bm4, sn4, sub4, ab4, col4, dd4, kq0_4, kq1_4, kq2_4, kq3_4, kq5_4, xl4, xr4⟩, xs4, xe4, xt4, xk4⟩
  have sc4 : SupC PySem.Challenge.pw_lockrules_k08_books_of_entries K mg e4 fi4 "__init__" "BadSize.__init__" (defArgs in_BadSize) (defBody in_BadSize) (defScope in_BadSize) cda4 cc4 := ⟨ox4, ⟨_, _, _, _, _, _, _, _, xf4⟩, xc4, ⟨_, _, _, _, _, _, xm4, xn4, xo4⟩, ⟨_, _, _, xp4⟩, xq4, xu4, xv4, PySem.W.mg_none_of X G y0, y1, by decide +kernel⟩
  have ex4 : ExcC K e4 := ⟨xA4, xB4, xe4, xC4, xD4, y2, y3, xE4⟩
  have kk4 : XK1 PySem.Challenge.pw_lockrules_k08_books_of_entries w K mg xt "BadSize" 4 "count" := ⟨⟨PySem.W.mg_of X G ga4, ox4, ⟨fi4, xi4, xj4, ini_BadSize sc4 xw4⟩, rfl⟩, ⟨xA4, xB4, xe4, xC4⟩, xw4, ex4⟩
  have ox5 : OexC K e5 := ⟨⟨nm5, q5, N5, bs5, bm5, sn5, sub5, ab5, col5, dd5, kq0_5, kq1_5, kq2_5, kq3_5, kq5_5, xl5, xr5⟩, xs5, xe5, xt5, xk5⟩
  have sc5 : SupC PySem.Challenge.pw_lockrules_k08_books_of_entries K mg e5 fi5 "__init__" "BadItem.__init__" (defArgs in_BadItem) (defBody in_BadItem) (defScope in_BadItem) cda5 cc5 := ⟨ox5, ⟨_, _, _, _, _, _, _, _, xf5⟩, xc5, ⟨_, _, _, _, _, _, xm5, xn5, xo5⟩, ⟨_, _, _, xp5⟩, xq5, xu5, xv5, PySem.W.mg_none_of X G y0, y1, by decide +kernel⟩
  have ex5 : ExcC K e5 := ⟨xA5, xB5, xe5, xC5, xD5, y2, y3, xE5⟩
  have kk5 : XK1 PySem.Challenge.pw_lockrules_k08_books_of_entries w K mg xt "BadItem" 5 "item" := ⟨⟨PySem.W.mg_of X G ga5, ox5, ⟨fi5, xi5, xj5, ini_BadItem sc5 xw5⟩, rfl⟩, ⟨xA5, xB5, xe5, xC5⟩, xw5, ex5⟩
  have ox6 : OexC K e6 := ⟨⟨nm6, q6, N6, bs6, bm6, sn6, sub6, ab6, col6, dd6, kq0_6, kq1_6, kq2_6, kq3_6, kq5_6, xl6, xr6⟩, xs6, xe6, xt6, xk6⟩
  have sc6 : SupC PySem.Challenge.pw_lockrules_k08_books_of_entries K mg e6 fi6 "__init__" "BadState.__init__" (defArgs in_BadState) (defBody in_BadState) (defScope in_BadState) cda6 cc6 := ⟨ox6, ⟨_, _, _, _, _, _, _, _, xf6⟩, xc6, ⟨_, _, _, _, _, _, xm6, xn6, xo6⟩, ⟨_, _, _, xp6⟩, xq6, xu6, xv6, PySem.W.mg_none_of X G y0, y1, by decide +kernel⟩
  have ex6 : ExcC K e6 := ⟨xA6, xB6, xe6, xC6, xD6, y2, y3, xE6⟩
  have kk6 : XK1 PySem.Challenge.pw_lockrules_k08_books_of_entries w K mg xt "BadState" 6 "state" := ⟨⟨PySem.W.mg_of X G ga6, ox6, ⟨fi6, xi6, xj6, ini_BadState sc6 xw6⟩, rfl⟩, ⟨xA6, xB6, xe6, xC6⟩, xw6, ex6⟩
  have B : Bt PySem.Challenge.pw_lockrules_k08_books_of_entries w K mg xt := ⟨PySem.W.mg_none_of X G z_range,
    PySem.W.mg_none_of X G z_len,
    PySem.W.mg_none_of X G z_all,
    PySem.W.mg_none_of X G z_list,
    PySem.W.mg_none_of X G z_int,
    PySem.W.mg_none_of X G z_isinstance,
    PySem.W.mg_none_of X G z_bool,
    PySem.W.mg_none_of X G z_str,
    PySem.W.mg_none_of X G z_tuple,
    PySem.W.mg_none_of X G z_sorted,
    ⟨_, PySem.W.mg_of X G cc_LARGEST, ⟨_, rfl⟩⟩,
    ⟨_, PySem.W.mg_of X G cc_SIGNS, ⟨_, rfl⟩⟩,
    kk4,
    kk5,
    kk6,
    PySem.W.mg_of X G gB,
    ⟨⟨pB1, pB2, pB3, pB4⟩, nB, qB⟩,
    fun F => sq_none lE rfl rfl F,
    PySem.W.mg_of X G ga4,
    PySem.W.mg_of X G ga5,
    PySem.W.mg_of X G ga6,
    (fun k b hb => by unfold h_BadItem at hb; (by_cases q4 : k = 4; (· subst q4; cases hb; exact hh4_5); rw [if_neg q4] at hb); (by_cases q5 : k = 5; (· subst q5; cases hb; exact hh5_5); rw [if_neg q5] at hb); (by_cases q6 : k = 6; (· subst q6; cases hb; exact hh6_5); rw [if_neg q6] at hb); cases hb),
    (fun k b hb => by unfold h_BadState at hb; (by_cases q4 : k = 4; (· subst q4; cases hb; exact hh4_6); rw [if_neg q4] at hb); (by_cases q5 : k = 5; (· subst q5; cases hb; exact hh5_6); rw [if_neg q5] at hb); (by_cases q6 : k = 6; (· subst q6; cases hb; exact hh6_6); rw [if_neg q6] at hb); cases hb)⟩
  have F0 := fun_mk (st := st_m_start) l0 c0 k0
  have b0 := F0.binds (ps := ["size"]) fun _ _ _ _ _ _ us hl => match us, hl with | [_], _ => rfl
  have C0 : Cal K mg "start" f0 _ ["size"] := ⟨PySem.W.mg_of X G a0, k0, b0⟩
  have F1 := fun_mk (st := st_m_all_states) l1 c1 k1
  have b1 := F1.binds (ps := ["size"]) fun _ _ _ _ _ _ us hl => match us, hl with | [_], _ => rfl
  have C1 : Cal K mg "all_states" f1 _ ["size"] := ⟨PySem.W.mg_of X G a1, k1, b1⟩
  have F2 := fun_mk (st := st_m_is_state) l2 c2 k2
  have b2 := F2.binds (ps := ["size", "state"]) fun _ _ _ _ _ _ us hl => match us, hl with | [_, _], _ => rfl
  have C2 : Cal K mg "is_state" f2 _ ["size", "state"] := ⟨PySem.W.mg_of X G a2, k2, b2⟩
  have F3 := fun_mk (st := st_m_check_item) l3 c3 k3
  have b3 := F3.binds (ps := ["size", "item"]) fun _ _ _ _ _ _ us hl => match us, hl with | [_, _], _ => rfl
  have C3 : Cal K mg "check_item" f3 _ ["size", "item"] := ⟨PySem.W.mg_of X G a3, k3, b3⟩
  have F4 := fun_mk (st := st_m_check_entry) l4 c4 k4
  have b4 := F4.binds (ps := ["size", "item", "state"]) fun _ _ _ _ _ _ us hl => match us, hl with | [_, _, _], _ => rfl
  have C4 : Cal K mg "check_entry" f4 _ ["size", "item", "state"] := ⟨PySem.W.mg_of X G a4, k4, b4⟩
  have F5 : FunD K "__init__" "Book.__init__" (defArgs st_m_Book_init) (defBody st_m_Book_init) (defScope st_m_Book_init) [V.ref eT] [] f5 _ := ⟨⟨_, _, _, _, _, _, _, _, _, _, rfl, l5, c5, .inr ⟨by simp, tT, _, [Value.ref eT], _, rfl, lT, rfl, .cons rfl .nil⟩, .inl rfl⟩, k5⟩
  have bd5 := F5.binds1 (ps := ["self", "size", "entries"]) 2 0 (by simp) (by rfl) fun _ _ _ _ _ _ _ us its hu hi => match us, hu, its, hi with | [_, _], _, [_], _ => ⟨_, rfl, rfl⟩
  have b05 := F5.binds1 (ps := ["self", "size", "entries"]) 3 1 (by simp) (by rfl) fun _ _ _ _ _ _ _ us its hu hi => match us, hu, its, hi with | [_, _, _], _, [_], _ => ⟨_, rfl, rfl⟩
  have kb5 : KBn K _ ["self", "size", "entries"] 2 ["entries"] (fun us ws => us ++ ws) (fun vs zs => vs ++ zs) := (F5.kbindsD 2 ["entries"] (fun us _ ws => us ++ ws) (by simp) (fun r1 _ r3 => r1.append r3) fun _ _ _ _ _ _ _ us its ws h1 h2 h3 => match us, h1, its, h2, ws, h3 with | [_, _], _, [_], _, [_], _ => ⟨_, rfl, rfl⟩).choose_spec
  have C5 : CalIK K mg kB f5 "Book" _ ["self", "size", "entries"] [V.ref eT] 1 ["entries"] := ⟨⟨⟨mB1, a5, ai5, mB2⟩, PySem.W.mg_of X G gB, (by obtain ⟨ds_, v_, h_⟩ := b05; cases v_; exact h_), bd5⟩, kb5⟩
  have F6 := fun_mk (st := st_m_Book_size) l6 c6 k6
  have b6 := F6.binds (ps := ["self"]) fun _ _ _ _ _ _ us hl => match us, hl with | [_], _ => rfl
  have C6 : CalP K kB "size" f6 _ ["self"] := ⟨⟨_, ⟨a6, as6, at6, _, ar6⟩⟩, b6⟩
  have F7 := fun_mk (st := st_m_Book_getitem) l7 c7 k7
  have b7 := F7.binds (ps := ["self", "item"]) fun _ _ _ _ _ _ us hl => match us, hl with | [_, _], _ => rfl
  have C7 : CalO K kB "__getitem__" f7 _ ["self", "item"] := ⟨⟨a7, ai7⟩, af7, b7⟩
  have F8 := fun_mk (st := st_m_Book_entries) l8 c8 k8
  have b8 := F8.binds (ps := ["self"]) fun _ _ _ _ _ _ us hl => match us, hl with | [_], _ => rfl
  have C8 : CalM K kB "entries" f8 _ ["self"] := ⟨⟨a8, ai8, k8⟩, b8⟩
  have F9 := fun_mk (st := st_m_law_cell) l9 c9 k9
  have b9 := F9.binds (ps := ["_law_script", "_law_k"]) fun _ _ _ _ _ _ us hl => match us, hl with | [_, _], _ => rfl
  have C9 : Cal K mg "_law_cell" f9 _ ["_law_script", "_law_k"] := ⟨PySem.W.mg_of X G a9, k9, b9⟩
  have F10 := fun_mk (st := st_m_law_numbers) l10 c10 k10
  have b10 := F10.binds (ps := ["_law_cell_here", "_law_many", "_law_limit"]) fun _ _ _ _ _ _ us hl => match us, hl with | [_, _, _], _ => rfl
  have C10 : Cal K mg "_law_numbers" f10 _ ["_law_cell_here", "_law_many", "_law_limit"] := ⟨PySem.W.mg_of X G a10, k10, b10⟩
  have F11 := fun_mk (st := st_same) l11 c11 k11
  have b11 := F11.binds (ps := ["_law_actual", "_law_due"]) fun _ _ _ _ _ _ us hl => match us, hl with | [_, _], _ => rfl
  have C11 : Cal K mg "_law_same" f11 _ ["_law_actual", "_law_due"] := ⟨PySem.W.mg_of X G a11, k11, b11⟩
  have F12 := fun_mk (st := st_m_law_states) l12 c12 k12
  have b12 := F12.binds (ps := ["_law_size"]) fun _ _ _ _ _ _ us hl => match us, hl with | [_], _ => rfl
  have C12 : Cal K mg "_law_states" f12 _ ["_law_size"] := ⟨PySem.W.mg_of X G a12, k12, b12⟩
  have F13 := fun_mk (st := st_m_law_chance) l13 c13 k13
  have b13 := F13.binds (ps := ["_law_mode", "_law_state"]) fun _ _ _ _ _ _ us hl => match us, hl with | [_, _], _ => rfl
  have C13 : Cal K mg "_law_chance" f13 _ ["_law_mode", "_law_state"] := ⟨PySem.W.mg_of X G a13, k13, b13⟩
  have F14 := fun_mk (st := st_m_law_key) l14 c14 k14
  have b14 := F14.binds (ps := ["_law_mode", "_law_state"]) fun _ _ _ _ _ _ us hl => match us, hl with | [_, _], _ => rfl
  have C14 : Cal K mg "_law_key" f14 _ ["_law_mode", "_law_state"] := ⟨PySem.W.mg_of X G a14, k14, b14⟩
  have F15 := fun_mk (st := st_m_law_rules) l15 c15 k15
  have b15 := F15.binds (ps := ["_law_cell_here", "_law_size", "_law_mode"]) fun _ _ _ _ _ _ us hl => match us, hl with | [_, _, _], _ => rfl
  have C15 : Cal K mg "_law_rules" f15 _ ["_law_cell_here", "_law_size", "_law_mode"] := ⟨PySem.W.mg_of X G a15, k15, b15⟩
  have F16 := fun_mk (st := st_m_law_thin) l16 c16 k16
  have b16 := F16.binds (ps := ["_law_cell_here", "_law_size"]) fun _ _ _ _ _ _ us hl => match us, hl with | [_, _], _ => rfl
  have C16 : Cal K mg "_law_thin" f16 _ ["_law_cell_here", "_law_size"] := ⟨PySem.W.mg_of X G a16, k16, b16⟩
  have F17 := fun_mk (st := st_m_law_some) l17 c17 k17
  have b17 := F17.binds (ps := ["_law_cell_here", "_law_size", "_law_mode"]) fun _ _ _ _ _ _ us hl => match us, hl with | [_, _, _], _ => rfl
  have C17 : Cal K mg "_law_some" f17 _ ["_law_cell_here", "_law_size", "_law_mode"] := ⟨PySem.W.mg_of X G a17, k17, b17⟩
  have F18 := fun_mk (st := st_m_law_shuffled) l18 c18 k18
  have b18 := F18.binds (ps := ["_law_row", "_law_numbers_here"]) fun _ _ _ _ _ _ us hl => match us, hl with | [_, _], _ => rfl
  have C18 : Cal K mg "_law_shuffled" f18 _ ["_law_row", "_law_numbers_here"] := ⟨PySem.W.mg_of X G a18, k18, b18⟩
  have F19 := fun_mk (st := st_m_law_entries) l19 c19 k19
  have b19 := F19.binds (ps := ["_law_rules_here"]) fun _ _ _ _ _ _ us hl => match us, hl with | [_], _ => rfl
  have C19 : Cal K mg "_law_entries" f19 _ ["_law_rules_here"] := ⟨PySem.W.mg_of X G a19, k19, b19⟩
  have F20 := fun_mk (st := st_m_law_bad_state) l20 c20 k20
  have b20 := F20.binds (ps := ["_law_size", "_law_item", "_law_numbers_here"]) fun _ _ _ _ _ _ us hl => match us, hl with | [_, _, _], _ => rfl
  have C20 : Cal K mg "_law_bad_state" f20 _ ["_law_size", "_law_item", "_law_numbers_here"] := ⟨PySem.W.mg_of X G a20, k20, b20⟩
  have F21 := fun_mk (st := st_m_law_told) l21 c21 k21
  have b21 := F21.binds (ps := ["_law_size", "_law_rows"]) fun _ _ _ _ _ _ us hl => match us, hl with | [_, _], _ => rfl
  have C21 : Cal K mg "_law_told" f21 _ ["_law_size", "_law_rows"] := ⟨PySem.W.mg_of X G a21, k21, b21⟩
  have F22 := fun_mk (st := st_m_law) l22 c22 k22
  have b22 := F22.binds (ps := ["_law_script"]) fun _ _ _ _ _ _ us hl => match us, hl with | [_], _ => rfl
  refine ⟨PySem.W.fnOf "law" "law" (defArgs st_m_law) (defBody st_m_law) (defScope st_m_law) .none kV22 dc22 pm22 an22 cd22 ct22, fun s v => .of_eq rfl, fun base _ _ => ?_⟩
  have G0 : FnOk PySem.Challenge.pw_lockrules_k08_books_of_entries w K mg base (L2.CX PySem.Challenge.pw_lockrules_k08_books_of_entries w) 2 f0 _ ["size"] (spR xt (Pt.cons .sh rInt inferInstance Pt.nil) (fun (a : (Int × Unit)) => m_start a.1) (fun b => sF rTx b)) := ok_m_start B F0 
  have G1 : FnOk PySem.Challenge.pw_lockrules_k08_books_of_entries w K mg base (L2.CX PySem.Challenge.pw_lockrules_k08_books_of_entries w) 3 f1 _ ["size"] (spR xt (Pt.cons .sh rInt inferInstance Pt.nil) (fun (a : (Int × Unit)) => m_all_states a.1) (fun b => sL rTx b)) := ok_m_all_states B F1 C0 G0
  have G2 : FnOk PySem.Challenge.pw_lockrules_k08_books_of_entries w K mg base (L2.CX PySem.Challenge.pw_lockrules_k08_books_of_entries w) 1 f2 _ ["size", "state"] (spR xt (Pt.cons .sh rInt inferInstance (Pt.cons .sh rTx inferInstance Pt.nil)) (fun (a : (Int × (List Nat) × Unit)) => m_is_state a.1 a.2.1) (fun b => sF rBl b)) := ok_m_is_state B F2 
  have G3 : FnOk PySem.Challenge.pw_lockrules_k08_books_of_entries w K mg base (L2.CX PySem.Challenge.pw_lockrules_k08_books_of_entries w) 2 f3 _ ["size", "item"] (spR xt (Pt.cons .sh rInt inferInstance (Pt.cons .sh rInt inferInstance Pt.nil)) (fun (a : (Int × Int × Unit)) => m_check_item a.1 a.2.1) (fun b => sF rNon b)) := ok_m_check_item B F3 
  have G4 : FnOk PySem.Challenge.pw_lockrules_k08_books_of_entries w K mg base (L2.CX PySem.Challenge.pw_lockrules_k08_books_of_entries w) 2 f4 _ ["size", "item", "state"] (spR xt (Pt.cons .sh rInt inferInstance (Pt.cons .sh rInt inferInstance (Pt.cons .sh rTx inferInstance Pt.nil))) (fun (a : (Int × Int × (List Nat) × Unit)) => m_check_entry a.1 a.2.1 a.2.2.1) (fun b => sF rNon b)) := ok_m_check_entry B F4 C2 G2
  have G5 : FnOk PySem.Challenge.pw_lockrules_k08_books_of_entries w K mg base (L2.CX PySem.Challenge.pw_lockrules_k08_books_of_entries w) 3 f5 _ ["self", "size", "entries"] (spM xt (m0 (xt.cls 100)) (Pt.cons .sh rInt inferInstance (Pt.cons .bo (rSq K (rPr rInt rTx)) inferInstance Pt.nil)) (fun (g : Unit) (a : (Int × (List (Int × (List Nat))) × Unit)) => m_Book_init a.1 a.2.1) (fun o d => sO (mB (xt.cls 100) "rules" (rDk rTx rBl) o d)) (fun _ (_ : Unit) => .no)) := ok_m_Book_init B F5 C0 G0 C3 G3 C4 G4
  have G6 : FnOk PySem.Challenge.pw_lockrules_k08_books_of_entries w K mg base (L2.CX PySem.Challenge.pw_lockrules_k08_books_of_entries w) 1 f6 _ ["self"] (spR xt (Pt.cons .bo (rI1 (xt.cls 100) "rules" (rLst (rDk rTx rBl))) inferInstance Pt.nil) (fun (a : ((List (List ((List Nat) × Bool))) × Unit)) => m_Book_size a.1) (fun b => sF rInt b)) := ok_m_Book_size B F6 
  have G7 : FnOk PySem.Challenge.pw_lockrules_k08_books_of_entries w K mg base (L2.CX PySem.Challenge.pw_lockrules_k08_books_of_entries w) 4 f7 _ ["self", "item"] (spR xt (Pt.cons .bo (rI1 (xt.cls 100) "rules" (rLst (rDk rTx rBl))) inferInstance (Pt.cons .sh rInt inferInstance Pt.nil)) (fun (a : ((List (List ((List Nat) × Bool))) × Int × Unit)) => m_Book_getitem a.1 a.2.1) (fun b => sL rTx b)) := ok_m_Book_getitem B F7 C3 G3 C1 G1
  have G8 : GFn PySem.Challenge.pw_lockrules_k08_books_of_entries w K mg base 4 f8 _ ["self"] (spG (Pt.cons .bo (rI1 (xt.cls 100) "rules" (rLst (rDk rTx rBl))) inferInstance Pt.nil) (fun (zs : List (Int × (List Nat))) (a : ((List (List ((List Nat) × Bool))) × Unit)) => m_Book_entries_z zs a.1) (rPr rInt rTx)) := ok_m_Book_entries B F8 C1 G1
  have G9 : FnOk PySem.Challenge.pw_lockrules_k08_books_of_entries w K mg base (L2.CX PySem.Challenge.pw_lockrules_k08_books_of_entries w) 1 f9 _ ["_law_script", "_law_k"] (spR xt (Pt.cons .bo (rScr K) inferInstance (Pt.cons .sh rInt inferInstance Pt.nil)) (fun (a : ((List Int) × Int × Unit)) => m_law_cell a.1 a.2.1) (fun b => sF rInt b)) := ok_m_law_cell B F9 
  have G10 : FnOk PySem.Challenge.pw_lockrules_k08_books_of_entries w K mg base (L2.CX PySem.Challenge.pw_lockrules_k08_books_of_entries w) 1 f10 _ ["_law_cell_here", "_law_many", "_law_limit"] (spR xt (Pt.cons .sh rInt inferInstance (Pt.cons .sh rInt inferInstance (Pt.cons .sh rInt inferInstance Pt.nil))) (fun (a : (Int × Int × Int × Unit)) => m_law_numbers a.1 a.2.1 a.2.2.1) (fun b => sL rInt b)) := ok_m_law_numbers B F10 
  have G11 : FnOk PySem.Challenge.pw_lockrules_k08_books_of_entries w K mg base CX0 5 f11 _ ["_law_actual", "_law_due"] (spSame 4) := ok_same B F11 C11 4
  have G12 : FnOk PySem.Challenge.pw_lockrules_k08_books_of_entries w K mg base (L2.CX PySem.Challenge.pw_lockrules_k08_books_of_entries w) 1 f12 _ ["_law_size"] (spR xt (Pt.cons .sh rInt inferInstance Pt.nil) (fun (a : (Int × Unit)) => m_law_states a.1) (fun b => sF (rLst rTx) b)) := ok_m_law_states B F12 
  have G13 : FnOk PySem.Challenge.pw_lockrules_k08_books_of_entries w K mg base (L2.CX PySem.Challenge.pw_lockrules_k08_books_of_entries w) 1 f13 _ ["_law_mode", "_law_state"] (spR xt (Pt.cons .sh rInt inferInstance (Pt.cons .sh rTx inferInstance Pt.nil)) (fun (a : (Int × (List Nat) × Unit)) => m_law_chance a.1 a.2.1) (fun b => sF rInt b)) := ok_m_law_chance B F13 
  have G14 : FnOk PySem.Challenge.pw_lockrules_k08_books_of_entries w K mg base (L2.CX PySem.Challenge.pw_lockrules_k08_books_of_entries w) 1 f14 _ ["_law_mode", "_law_state"] (spR xt (Pt.cons .sh rInt inferInstance (Pt.cons .sh rTx inferInstance Pt.nil)) (fun (a : (Int × (List Nat) × Unit)) => m_law_key a.1 a.2.1) (fun b => sF rTx b)) := ok_m_law_key B F14 
  have G15 : FnOk PySem.Challenge.pw_lockrules_k08_books_of_entries w K mg base (L2.CX PySem.Challenge.pw_lockrules_k08_books_of_entries w) 2 f15 _ ["_law_cell_here", "_law_size", "_law_mode"] (spR xt (Pt.cons .sh rInt inferInstance (Pt.cons .sh rInt inferInstance (Pt.cons .sh rInt inferInstance Pt.nil))) (fun (a : (Int × Int × Int × Unit)) => m_law_rules a.1 a.2.1 a.2.2.1) (fun b => sL (rLst rTx) b)) := ok_m_law_rules B F15 C12 G12 C10 G10 C14 G14 C13 G13
  have G16 : FnOk PySem.Challenge.pw_lockrules_k08_books_of_entries w K mg base (L2.CX PySem.Challenge.pw_lockrules_k08_books_of_entries w) 2 f16 _ ["_law_cell_here", "_law_size"] (spR xt (Pt.cons .sh rInt inferInstance (Pt.cons .sh rInt inferInstance Pt.nil)) (fun (a : (Int × Int × Unit)) => m_law_thin a.1 a.2.1) (fun b => sL (rLst rTx) b)) := ok_m_law_thin B F16 C10 G10
  have G17 : FnOk PySem.Challenge.pw_lockrules_k08_books_of_entries w K mg base (L2.CX PySem.Challenge.pw_lockrules_k08_books_of_entries w) 3 f17 _ ["_law_cell_here", "_law_size", "_law_mode"] (spR xt (Pt.cons .sh rInt inferInstance (Pt.cons .sh rInt inferInstance (Pt.cons .sh rInt inferInstance Pt.nil))) (fun (a : (Int × Int × Int × Unit)) => m_law_some a.1 a.2.1 a.2.2.1) (fun b => sL (rLst rTx) b)) := ok_m_law_some B F17 C16 G16 C15 G15
  have G18 : FnOk PySem.Challenge.pw_lockrules_k08_books_of_entries w K mg base (L2.CX PySem.Challenge.pw_lockrules_k08_books_of_entries w) 1 f18 _ ["_law_row", "_law_numbers_here"] (spR xt (Pt.cons .sh (rLst (rPr rInt rTx)) inferInstance (Pt.cons .sh (rLst rInt) inferInstance Pt.nil)) (fun (a : ((List (Int × (List Nat))) × (List Int) × Unit)) => m_law_shuffled a.1 a.2.1) (fun b => sL (rPr rInt rTx) b)) := ok_m_law_shuffled B F18 
  have G19 : FnOk PySem.Challenge.pw_lockrules_k08_books_of_entries w K mg base (L2.CX PySem.Challenge.pw_lockrules_k08_books_of_entries w) 1 f19 _ ["_law_rules_here"] (spR xt (Pt.cons .bo (rLst (rLst rTx)) inferInstance Pt.nil) (fun (a : ((List (List (List Nat))) × Unit)) => m_law_entries a.1) (fun b => sL (rPr rInt rTx) b)) := ok_m_law_entries B F19 
  have G20 : FnOk PySem.Challenge.pw_lockrules_k08_books_of_entries w K mg base (L2.CX PySem.Challenge.pw_lockrules_k08_books_of_entries w) 1 f20 _ ["_law_size", "_law_item", "_law_numbers_here"] (spR xt (Pt.cons .sh rInt inferInstance (Pt.cons .sh rInt inferInstance (Pt.cons .sh (rLst rInt) inferInstance Pt.nil))) (fun (a : (Int × Int × (List Int) × Unit)) => m_law_bad_state a.1 a.2.1 a.2.2.1) (fun b => sF rTx b)) := ok_m_law_bad_state B F20 
  have G21 : FnOk PySem.Challenge.pw_lockrules_k08_books_of_entries w K mg base (L2.CX PySem.Challenge.pw_lockrules_k08_books_of_entries w) 5 f21 _ ["_law_size", "_law_rows"] (spR xt (Pt.cons .sh rInt inferInstance (Pt.cons .sh (rLst (rPr rInt rTx)) inferInstance Pt.nil)) (fun (a : (Int × (List (Int × (List Nat))) × Unit)) => m_law_told a.1 a.2.1) (fun b => sF rDt b)) := ok_m_law_told B F21 C5 G5
  exact FnOk.imp (ok_m_law B F22 C10 G10 C9 G9 C17 G17 C19 G19 C18 G18 C5 G5 C11 G11 C6 G6 C8 G8 C7 G7 C20 G20 C21 G21) (law_imp ht)
theorem walk {l : PySem.W.OpenLaw} {q : Program} {loose : List Str} {XP : (Str → Option Value) → Heap → Prop} {YP : World → Heap → Prop} {d : DefRec} {K : Params → PySem.W.Frag} (hn : l.most = some 63) (hdf : d.params.defaults = [])
    (hY : ∀ (w : World) (h : Heap), YP w h → (K w.params).In h)
    (F : ∀ (w : World) (mg : Str → Option Value) (fa : Addr) (h : Heap), (K w.params).In h → h.Ns mainGlobals mg → mg d.name = some (.ref fa) →
      ∃ fd : FuncData, (∀ (s : Shared) (u : Value), BindsTo s fd ⟨[u], []⟩ [("_law_script", u)]) ∧ ∀ base : Heap, (K w.params).In base → base.Ns mainGlobals mg → FnOk l.prog w (K w.params) mg base (L2.CX l.prog w) 8 fa fd ["_law_script"] (spLaw (K w.params))) :
    PySem.W.WalkO q loose XP YP l.row.toRowW d [] (fun f vs => PySem.call f vs) :=
  L2.walk_of (n := 63) (k := 8) (x := "_law_script") (CX := fun w => L2.CX l.prog w) (sp := fun w => spLaw (K w.params)) hn (by decide) hdf ⟨rfl, by decide, by decide⟩ hY F (fun _ _ a ns hl _ hS => ⟨a, ns, rfl, hS, hl, fun _ => rfl⟩) fun _ _ _ _ _ z => by
    obtain ⟨_, _, _, _, _, _, _, _, _, _, _, _, z⟩ := z
    exact z.elim
end Zk08
open PySem PySem.W PyProof.Rows
set_option maxRecDepth 100000 in
set_option maxHeartbeats 0 in
theorem PySem.Challenge.cw_lockrules_k08_books_of_entries_holds : PySem.Challenge.rw_lockrules_k08_books_of_entries.Holds := by
  w_on; o_law; k_head; (case hw => w_witness2)
  k_fill
  refine Zk08.walk (l := PySem.Challenge.rw_lockrules_k08_books_of_entries) rfl rfl (fun w h Y => PySem.W.kIn_of Y) ?F
  case F =>
    intro w mg fa h KX G hmg
    refine' Zk08.all_mk rfl Zk08.law_true KX G hmg ?gB ?pB1 ?pB2 ?pB3 ?pB4 ?nB ?qB ?mB1 ?mB2 ?rB1 ?rB2 ?a0 ?l0 ?c0 ?k0 ?a1 ?l1 ?c1 ?k1 ?a2 ?l2 ?c2 ?k2 ?a3 ?l3 ?c3 ?k3 ?a4 ?l4 ?c4 ?k4 ?a5 ?ai5 ?af5 ?l5 ?c5 ?k5 ?a6 ?as6 ?at6 ?ar6 ?l6 ?c6 ?k6 ?a7 ?ai7 ?af7 ?l7 ?c7 ?k7 ?a8 ?ai8 ?af8 ?l8 ?c8 ?k8 ?a9 ?l9 ?c9 ?k9 ?a10 ?l10 ?c10 ?k10 ?a11 ?l11 ?c11 ?k11 ?a12 ?l12 ?c12 ?k12 ?a13 ?l13 ?c13 ?k13 ?a14 ?l14 ?c14 ?k14 ?a15 ?l15 ?c15 ?k15 ?a16 ?l16 ?c16 ?k16 ?a17 ?l17 ?c17 ?k17 ?a18 ?l18 ?c18 ?k18 ?a19 ?l19 ?c19 ?k19 ?a20 ?l20 ?c20 ?k20 ?a21 ?l21 ?c21 ?k21 ?a22 ?l22 ?c22 ?k22 ?lT ?lE ?ga4 ?ga5 ?ga6 ?xl4 ?xr4 ?xs4 ?xe4 ?xt4 ?xk4 ?xi4 ?xj4 ?xf4 ?xc4 ?xm4 ?xn4 ?xo4 ?xp4 ?xq4 ?xu4 ?xv4 ?xw4 ?xA4 ?xB4 ?xC4 ?xD4 ?xE4 ?xl5 ?xr5 ?xs5 ?xe5 ?xt5 ?xk5 ?xi5 ?xj5 ?xf5 ?xc5 ?xm5 ?xn5 ?xo5 ?xp5 ?xq5 ?xu5 ?xv5 ?xw5 ?xA5 ?xB5 ?xC5 ?xD5 ?xE5 ?xl6 ?xr6 ?xs6 ?xe6 ?xt6 ?xk6 ?xi6 ?xj6 ?xf6 ?xc6 ?xm6 ?xn6 ?xo6 ?xp6 ?xq6 ?xu6 ?xv6 ?xw6 ?xA6 ?xB6 ?xC6 ?xD6 ?xE6 ?y0 ?y1 ?y2 ?y3 ?hh4_5 ?hh5_5 ?hh6_5 ?hh4_6 ?hh5_6 ?hh6_6 ?cc_LARGEST ?cc_SIGNS ?z_range ?z_len ?z_all ?z_list ?z_int ?z_isinstance ?z_bool ?z_str ?z_tuple ?z_sorted
    (case gB => k_is)
    (case pB1 => k_is)
    (case pB2 => k_is)
    (case pB3 => k_is)
    (case pB4 => k_is)
    (case nB => k_is)
    (case qB => k_is)
    (case mB1 => k_is)
    (case mB2 => k_is)
    (case rB1 => k_is)
    (case rB2 => k_is)
    (case a0 => k_is)
    (case l0 => k_is)
    (case c0 => k_is)
    (case k0 => k_is)
    (case a1 => k_is)
    (case l1 => k_is)
    (case c1 => k_is)
    (case k1 => k_is)
    (case a2 => k_is)
    (case l2 => k_is)
    (case c2 => k_is)
    (case k2 => k_is)
    (case a3 => k_is)
    (case l3 => k_is)
    (case c3 => k_is)
    (case k3 => k_is)
    (case a4 => k_is)
    (case l4 => k_is)
    (case c4 => k_is)
    (case k4 => k_is)
    (case a5 => k_is)
    (case ai5 => k_is)
    (case af5 => k_is)
    (case l5 => k_is)
    (case c5 => k_is)
    (case k5 => k_is)
    (case a6 => k_is)
    (case as6 => k_is)
    (case at6 => k_is)
    (case ar6 => k_is)
    (case l6 => k_is)
    (case c6 => k_is)
    (case k6 => k_is)
    (case a7 => k_is)
    (case ai7 => k_is)
    (case af7 => k_is)
    (case l7 => k_is)
    (case c7 => k_is)
    (case k7 => k_is)
    (case a8 => k_is)
    (case ai8 => k_is)
    (case af8 => k_is)
    (case l8 => k_is)
    (case c8 => k_is)
    (case k8 => k_is)
    (case a9 => k_is)
    (case l9 => k_is)
    (case c9 => k_is)
    (case k9 => k_is)
    (case a10 => k_is)
    (case l10 => k_is)
    (case c10 => k_is)
    (case k10 => k_is)
    (case a11 => k_is)
    (case l11 => k_is)
    (case c11 => k_is)
    (case k11 => k_is)
    (case a12 => k_is)
    (case l12 => k_is)
    (case c12 => k_is)
    (case k12 => k_is)
    (case a13 => k_is)
    (case l13 => k_is)
    (case c13 => k_is)
    (case k13 => k_is)
    (case a14 => k_is)
    (case l14 => k_is)
    (case c14 => k_is)
    (case k14 => k_is)
    (case a15 => k_is)
    (case l15 => k_is)
    (case c15 => k_is)
    (case k15 => k_is)
    (case a16 => k_is)
    (case l16 => k_is)
    (case c16 => k_is)
    (case k16 => k_is)
    (case a17 => k_is)
    (case l17 => k_is)
    (case c17 => k_is)
    (case k17 => k_is)
    (case a18 => k_is)
    (case l18 => k_is)
    (case c18 => k_is)
    (case k18 => k_is)
    (case a19 => k_is)
    (case l19 => k_is)
    (case c19 => k_is)
    (case k19 => k_is)
    (case a20 => k_is)
    (case l20 => k_is)
    (case c20 => k_is)
    (case k20 => k_is)
    (case a21 => k_is)
    (case l21 => k_is)
    (case c21 => k_is)
    (case k21 => k_is)
    (case a22 => k_is)
    (case l22 => k_is)
    (case c22 => k_is)
    (case k22 => k_is)
    (case lT => k_is)
    (case lE => k_is)
    (case ga4 => k_is)
    (case ga5 => k_is)
    (case ga6 => k_is)
    (case xl4 => k_is)
    (case xr4 => first | rfl | decide +kernel)
    (case xs4 => k_is)
    (case xe4 => k_is)
    (case xt4 => k_is)
    (case xk4 => k_is)
    (case xi4 => k_is)
    (case xj4 => k_is)
    (case xf4 => k_is)
    (case xc4 => k_is)
    (case xm4 => k_is)
    (case xn4 => first | rfl | decide +kernel)
    (case xo4 => first | rfl | decide +kernel)
    (case xp4 => k_is)
    (case xq4 => ks_is)
    (case xu4 => k_is)
    (case xv4 => k_is)
    (case xw4 => k_is)
    (case xA4 => k_is)
    (case xB4 => k_is)
    (case xC4 => k_is)
    (case xD4 => k_is)
    (case xE4 => k_is)
    (case xl5 => k_is)
    (case xr5 => first | rfl | decide +kernel)
    (case xs5 => k_is)
    (case xe5 => k_is)
    (case xt5 => k_is)
    (case xk5 => k_is)
    (case xi5 => k_is)
    (case xj5 => k_is)
    (case xf5 => k_is)
    (case xc5 => k_is)
    (case xm5 => k_is)
    (case xn5 => first | rfl | decide +kernel)
    (case xo5 => first | rfl | decide +kernel)
    (case xp5 => k_is)
    (case xq5 => ks_is)
    (case xu5 => k_is)
    (case xv5 => k_is)
    (case xw5 => k_is)
    (case xA5 => k_is)
    (case xB5 => k_is)
    (case xC5 => k_is)
    (case xD5 => k_is)
    (case xE5 => k_is)
    (case xl6 => k_is)
    (case xr6 => first | rfl | decide +kernel)
    (case xs6 => k_is)
    (case xe6 => k_is)
    (case xt6 => k_is)
    (case xk6 => k_is)
    (case xi6 => k_is)
    (case xj6 => k_is)
    (case xf6 => k_is)
    (case xc6 => k_is)
    (case xm6 => k_is)
    (case xn6 => first | rfl | decide +kernel)
    (case xo6 => first | rfl | decide +kernel)
    (case xp6 => k_is)
    (case xq6 => ks_is)
    (case xu6 => k_is)
    (case xv6 => k_is)
    (case xw6 => k_is)
    (case xA6 => k_is)
    (case xB6 => k_is)
    (case xC6 => k_is)
    (case xD6 => k_is)
    (case xE6 => k_is)
    (case y0 => k_is)
    (case y1 => k_is)
    (case y2 => k_is)
    (case y3 => k_is)
    (case hh4_5 => kts_exm)
    (case hh5_5 => kts_exm)
    (case hh6_5 => kts_exm)
    (case hh4_6 => kts_exm)
    (case hh5_6 => kts_exm)
    (case hh6_6 => kts_exm)
    (case cc_LARGEST => k_is)
    (case cc_SIGNS => k_is)
    (case z_range => k_is)
    (case z_len => k_is)
    (case z_all => k_is)
    (case z_list => k_is)
    (case z_int => k_is)
    (case z_isinstance => k_is)
    (case z_bool => k_is)
    (case z_str => k_is)
    (case z_tuple => k_is)
    (case z_sorted => k_is)
#print axioms PySem.Challenge.cw_lockrules_k08_books_of_entries_holds
