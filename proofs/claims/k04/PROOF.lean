import PyProof.Rows.All
import Wide.All
import OpenK.AllK
import Wide.FinOn
import HandS.ForMost
import KE.GoesNew
import HandS.IsInst
import HandS.Conv
import PyProof.StrOps2
import HandS.TupAny
import KE.KRevSl
import KE.SortData
import KE.DataCmp
import PyProof.Rows.StrRev
import KE.DatumOrd
import KE.BitLaws
import HandS.WideBits
import HandS.SetFor
import HandS.ReplaceLit
import HandS.ReplaceDef
import HandS.ReplaceList
import KE.KTupSum
import KE.DataFind
import HandS.Strs
import PyProof.ListStr
import HandS.Flow
import HandS.NoneIn
import HandS.FStr
import HandS.More
import HandS.Exc
import HandS.ExcIs
import HandS.ExcField
import HandS.ExcInit
import HandS.ExcOwn
import HandS.ExcValue
import HandS.WordsExc
import KE.KExcIs
import HandS.RaiseMore
import KE.KExcStr
import PySem.Challenge.RW_facesparted_k04_texts_of_no_sets
import KE.KIntText
set_option Elab.async false
set_option linter.all false
set_option maxRecDepth 100000
set_option maxHeartbeats 4000000
/-! A typed layer over HandS: frozen data, owned lists, resources; readings by unions. -/
namespace Sm
open PySem PySem.Spec PyProof.Rows L2

/-! ### heaps: what is frozen (F), owned here (h), hidden (HI) -/
abbrev HL := List (Addr × HO)
/-- no tuple, and nothing locked: what is owned, and what is hidden -/
def NT : HO → Prop | .tup _ => False | .frz _ _ => False | .xd _ => False | _ => True
structure Ok (F : Hp) (h : HL) (HI H : Hp) : Prop where
  fz : Same F H
  own : ∀ p ∈ h, H p.1 = some p.2 ∧ F p.1 = none ∧ HI p.1 = none
  nd : (h.map (·.1)).Nodup
  hid : ∀ b o, HI b = some o → H b = some o ∧ F b = none
  nt : ∀ p ∈ h, NT p.2
  hnt : ∀ b o, HI b = some o → NT o
section
variable {F HI H : Hp} {h h' h1 h2 h3 : HL} {p : Addr} {o o' : HO}
theorem same_upd {H : Hp} {p : Addr} {o : HO} (h : H p = none) : Same H (upd H p o) := fun b x e => by
  rw [upd_ne (ne_of_none e h)]; exact e
theorem upd_free {H : Hp} {a b : Addr} {o : HO} (h : upd H a o b = none) : H b = none ∧ b ≠ a := by
  by_cases e : b = a
  · subst e; rw [upd_same] at h; cases h
  · rw [upd_ne e] at h; exact ⟨h, e⟩
theorem Ok.free (k : Ok F h HI H) (n : H p = none) : F p = none ∧ HI p = none ∧ p ∉ h.map (·.1) := by
  refine ⟨k.fz.free n, ?_, fun hm => ?_⟩
  · cases e : HI p with
    | none => rfl
    | some o => rw [(k.hid p o e).1] at n; cases n
  · obtain ⟨q, hq, e⟩ := List.mem_map.mp hm
    subst e
    rw [(k.own q hq).1] at n; cases n
theorem Ok.newF (k : Ok F h HI H) (n : H p = none) : Ok (upd F p o) h HI (upd H p o) := by
  obtain ⟨nF, nI, nh⟩ := k.free n
  refine ⟨fun b x e => ?_, fun q hq => ?_, k.nd, fun b x e => ?_, k.nt, k.hnt⟩
  · by_cases hb : b = p
    · subst hb; rw [upd_same] at e ⊢; exact e
    · rw [upd_ne hb] at e ⊢; exact k.fz b x e
  · obtain ⟨a1, a2, a3⟩ := k.own q hq
    have hb : q.1 ≠ p := fun e => nh (List.mem_map.mpr ⟨q, hq, e⟩)
    exact ⟨by rw [upd_ne hb]; exact a1, by rw [upd_ne hb]; exact a2, a3⟩
  · obtain ⟨a1, a2⟩ := k.hid b x e
    have hb : b ≠ p := fun q => by subst q; rw [nI] at e; cases e
    exact ⟨by rw [upd_ne hb]; exact a1, by rw [upd_ne hb]; exact a2⟩
theorem Ok.newO (k : Ok F h HI H) (n : H p = none) (ho : NT o := by trivial) : Ok F ((p, o) :: h) HI (upd H p o) := by
  obtain ⟨nF, nI, nh⟩ := k.free n
  refine ⟨k.fz.trans (same_upd n), fun q hq => ?_, ?_, fun b x e => ?_, fun q hq => (List.mem_cons.mp hq).elim (fun e => e ▸ ho) (k.nt q), k.hnt⟩
  · rcases List.mem_cons.mp hq with e | hq
    · subst e; exact ⟨upd_same, nF, nI⟩
    · obtain ⟨a1, a2, a3⟩ := k.own q hq
      have hb : q.1 ≠ p := fun e => nh (List.mem_map.mpr ⟨q, hq, e⟩)
      exact ⟨by rw [upd_ne hb]; exact a1, a2, a3⟩
  · rw [List.map_cons, List.nodup_cons]; exact ⟨nh, k.nd⟩
  · obtain ⟨a1, a2⟩ := k.hid b x e
    have hb : b ≠ p := fun q => by subst q; rw [nI] at e; cases e
    exact ⟨by rw [upd_ne hb]; exact a1, a2⟩
theorem Ok.perm (k : Ok F h HI H) (e : h.Perm h') : Ok F h' HI H :=
  ⟨k.fz, fun p hp => k.own p (e.mem_iff.mpr hp), (e.map _).nodup_iff.mp k.nd, k.hid, fun p hp => k.nt p (e.mem_iff.mpr hp), k.hnt⟩
theorem Ok.sub (k : Ok F h HI H) (e : h'.Sublist h) : Ok F h' HI H :=
  ⟨k.fz, fun p hp => k.own p (e.subset hp), (e.map _).nodup k.nd, k.hid, fun p hp => k.nt p (e.subset hp), k.hnt⟩
theorem Ok.freeze (k : Ok F ((p, o) :: h) HI H) : Ok (upd F p o) h HI H := by
  have k1 := k.own (p, o) List.mem_cons_self
  have nd := k.nd
  rw [List.map_cons, List.nodup_cons] at nd
  refine ⟨fun b x e => ?_, fun q hq => ?_, nd.2, fun b x e => ?_, fun q hq => k.nt q (List.mem_cons_of_mem _ hq), k.hnt⟩
  · by_cases hb : b = p
    · subst hb; rw [upd_same] at e; cases e; exact k1.1
    · rw [upd_ne hb] at e; exact k.fz b x e
  · obtain ⟨a1, a2, a3⟩ := k.own q (List.mem_cons_of_mem _ hq)
    have hb : q.1 ≠ p := fun e => nd.1 (List.mem_map.mpr ⟨q, hq, e⟩)
    exact ⟨a1, by rw [upd_ne hb]; exact a2, a3⟩
  · obtain ⟨a1, a2⟩ := k.hid b x e
    have hb : b ≠ p := fun q => by subst q; rw [k1.2.2] at e; cases e
    exact ⟨a1, by rw [upd_ne hb]; exact a2⟩
theorem Ok.set (k : Ok F ((p, o) :: h) HI H) (ho : NT o' := by trivial) : Ok F ((p, o') :: h) HI (upd H p o') := by
  have k1 := k.own (p, o) List.mem_cons_self
  have nd := k.nd
  rw [List.map_cons, List.nodup_cons] at nd
  refine ⟨fun b x e => ?_, fun q hq => ?_, by rw [List.map_cons, List.nodup_cons]; exact nd, fun b x e => ?_, fun q hq => (List.mem_cons.mp hq).elim (fun e => e ▸ ho) (fun w => k.nt q (List.mem_cons_of_mem _ w)), k.hnt⟩
  · have hb : b ≠ p := fun q => by subst q; rw [k1.2.1] at e; cases e
    rw [upd_ne hb]; exact k.fz b x e
  · rcases List.mem_cons.mp hq with e | hq
    · subst e; exact ⟨upd_same, k1.2.1, k1.2.2⟩
    · obtain ⟨a1, a2, a3⟩ := k.own q (List.mem_cons_of_mem _ hq)
      have hb : q.1 ≠ p := fun e => nd.1 (List.mem_map.mpr ⟨q, hq, e⟩)
      exact ⟨by rw [upd_ne hb]; exact a1, a2, a3⟩
  · obtain ⟨a1, a2⟩ := k.hid b x e
    have hb : b ≠ p := fun q => by subst q; rw [k1.2.2] at e; cases e
    exact ⟨by rw [upd_ne hb]; exact a1, a2⟩
/-- hide l -/
def hide (HI : Hp) (l : HL) : Hp := fun b => match l.lookup b with | some o => some o | none => HI b
theorem lookup_of_mem {l : HL} {p : Addr × HO} (nd : (l.map (·.1)).Nodup) (hp : p ∈ l) : l.lookup p.1 = some p.2 := by
  induction l with
  | nil => cases hp
  | cons q r ih =>
    rw [List.map_cons, List.nodup_cons] at nd
    rcases List.mem_cons.mp hp with e | hp2
    · subst e; obtain ⟨a, b⟩ := p; simp [List.lookup]
    · have hne : p.1 ≠ q.1 := fun e => nd.1 (List.mem_map.mpr ⟨p, hp2, e⟩)
      obtain ⟨a, b⟩ := q
      rw [List.lookup_cons]
      have : (p.1 == a) = false := beq_eq_false_iff_ne.mpr hne
      rw [this]; exact ih nd.2 hp2
theorem mem_of_lookup {l : HL} {b : Addr} {o : HO} (h : l.lookup b = some o) : (b, o) ∈ l := by
  induction l with
  | nil => cases h
  | cons q r ih =>
    obtain ⟨a, c⟩ := q
    rw [List.lookup_cons] at h
    by_cases e : b = a
    · subst e; simp at h; subst h; exact List.mem_cons_self
    · have : (b == a) = false := beq_eq_false_iff_ne.mpr e
      rw [this] at h; exact List.mem_cons_of_mem _ (ih h)
theorem Ok.hide (k : Ok F (h1 ++ h2) HI H) : Ok F h1 (hide HI h2) H := by
  have nd := k.nd
  rw [List.map_append] at nd
  refine ⟨k.fz, fun p hp => ?_, (List.nodup_append.mp nd).1, fun b x e => ?_, fun p hp => k.nt p (List.mem_append_left _ hp), fun b x e => ?_⟩
  · obtain ⟨a1, a2, a3⟩ := k.own p (List.mem_append_left _ hp)
    refine ⟨a1, a2, ?_⟩
    unfold Sm.hide
    cases e : h2.lookup p.1 with
    | none => exact a3
    | some o =>
      exact absurd rfl ((List.nodup_append.mp nd).2.2 p.1 (List.mem_map.mpr ⟨p, hp, rfl⟩) p.1 (List.mem_map.mpr ⟨_, mem_of_lookup e, rfl⟩))
  · unfold Sm.hide at e
    cases q : h2.lookup b with
    | none => rw [q] at e; exact k.hid b x e
    | some o =>
      rw [q] at e; cases e
      obtain ⟨a1, a2, _⟩ := k.own _ (List.mem_append_right _ (mem_of_lookup q))
      exact ⟨a1, a2⟩
  · unfold Sm.hide at e
    cases q : h2.lookup b with
    | none => rw [q] at e; exact k.hnt b x e
    | some o =>
      rw [q] at e; cases e
      exact k.nt _ (List.mem_append_right _ (mem_of_lookup q))
theorem Ok.unhide {F' H' : Hp} (k : Ok F (h1 ++ h2) HI H) (k' : Ok F' h' (Sm.hide HI h2) H') : Ok F' (h' ++ h2) HI H' := by
  have nd := k.nd
  rw [List.map_append] at nd
  have nd2 := (List.nodup_append.mp nd).2.1
  have hd : ∀ p ∈ h2, Sm.hide HI h2 p.1 = some p.2 := fun p hp => by
    unfold Sm.hide; rw [lookup_of_mem nd2 hp]
  have hI : ∀ b o, HI b = some o → Sm.hide HI h2 b = some o := fun b o e => by
    unfold Sm.hide
    cases q : h2.lookup b with
    | none => exact e
    | some u => rw [(k.own _ (List.mem_append_right _ (mem_of_lookup q))).2.2] at e; cases e
  refine ⟨k'.fz, fun p hp => ?_, ?_, fun b o e => k'.hid b o (hI b o e), fun p hp => (List.mem_append.mp hp).elim (k'.nt p) fun w => k.nt p (List.mem_append_right _ w), k.hnt⟩
  · rcases List.mem_append.mp hp with hp | hp
    · obtain ⟨a1, a2, a3⟩ := k'.own p hp
      refine ⟨a1, a2, ?_⟩
      cases e : HI p.1 with
      | none => rfl
      | some o => rw [hI _ _ e] at a3; cases a3
    · obtain ⟨a1, a2⟩ := k'.hid _ _ (hd p hp)
      exact ⟨a1, a2, (k.own p (List.mem_append_right _ hp)).2.2⟩
  · rw [List.map_append, List.nodup_append]
    refine ⟨k'.nd, nd2, fun a ha b hb e => ?_⟩
    subst e
    obtain ⟨p, hp, e1⟩ := List.mem_map.mp ha
    obtain ⟨q, hq, e2⟩ := List.mem_map.mp hb
    have := (k'.own p hp).2.2
    rw [e1, ← e2, hd q hq] at this; cases this
end

/-! ### assertions on values, slots, resources -/
structure VA where
  p : V → Hp → HL → Prop
  mono : ∀ {v F F' h}, Same F F' → p v F h → p v F' h
structure RP (α : Type) where
  r : α → V → Hp → Prop
  mono : ∀ {x v F F'}, Same F F' → r x v F → r x v F'
def fz {α : Type} (r : RP α) (x : α) : VA := ⟨fun v F h => h = [] ∧ r.r x v F, fun s q => ⟨q.1, r.mono s q.2⟩⟩
structure Res where
  p : Hp → HL → Prop
  mono : ∀ {F F' h}, Same F F' → p F h → p F' h
def emp : Res := ⟨fun _ h => h = [], fun _ q => q⟩
abbrev Asrt := List (Option VA)
def Sat : Asrt → L2.St → Hp → HL → Prop
  | [], [], _, h => h = []
  | none :: Γ, _ :: σ, F, h => Sat Γ σ F h
  | some A :: Γ, s :: σ, F, h => ∃ v h1 h2, s = some v ∧ h = h1 ++ h2 ∧ A.p v F h1 ∧ Sat Γ σ F h2
  | _, _, _, _ => False
theorem Sat.mono {F F' : Hp} (e : Same F F') : ∀ {Γ : Asrt} {σ : L2.St} {h : HL}, Sat Γ σ F h → Sat Γ σ F' h
  | [], [], _, q => q
  | none :: Γ, _ :: σ, _, q => Sat.mono (Γ := Γ) (σ := σ) e q
  | some A :: Γ, s :: σ, _, ⟨v, h1, h2, a, b, c, d⟩ => ⟨v, h1, h2, a, b, A.mono e c, Sat.mono e d⟩
theorem Sat.length {F : Hp} : ∀ {Γ : Asrt} {σ : L2.St} {h : HL}, Sat Γ σ F h → Γ.length = σ.length
  | [], [], _, _ => rfl
  | none :: Γ, _ :: σ, _, q => congrArg (· + 1) (Sat.length (Γ := Γ) (σ := σ) q)
  | some A :: Γ, s :: σ, _, ⟨_, _, _, _, _, _, d⟩ => congrArg (· + 1) (Sat.length d)
/-- one slot, and what stands beside it -/
theorem Sat.at {F : Hp} : ∀ {Γ : Asrt} {σ : L2.St} {h : HL} {i : Nat} {A : VA}, Sat Γ σ F h → Γ[i]? = some (some A) →
    ∃ v h1 h2, σ[i]? = some (some v) ∧ h.Perm (h1 ++ h2) ∧ A.p v F h1 ∧
      ∀ (F' : Hp) (A' : VA) (v' : V) (h1' : HL), Same F F' → A'.p v' F' h1' → ∃ h', h'.Perm (h1' ++ h2) ∧ Sat (Γ.set i (some A')) (σ.set i (some v')) F' h'
  | none :: Γ, s :: σ, h, 0, A, q, e => by cases e
  | some B :: Γ, s :: σ, h, 0, A, ⟨v, h1, h2, a, b, c, d⟩, e => by
    have e' : B = A := by simpa using e
    subst e'
    refine ⟨v, h1, h2, by rw [a]; rfl, by rw [b], c, fun F' A' v' h1' s q => ⟨h1' ++ h2, .refl _, v', h1', h2, rfl, rfl, q, d.mono s⟩⟩
  | none :: Γ, s :: σ, h, i + 1, A, q, e => by
    obtain ⟨v, h1, h2, a, b, c, d⟩ := Sat.at (Γ := Γ) (σ := σ) (h := h) (i := i) q (by simpa using e)
    refine ⟨v, h1, h2, by simpa using a, b, c, fun F' A' v' h1' s q => ?_⟩
    obtain ⟨h', p, r⟩ := d F' A' v' h1' s q
    exact ⟨h', p, r⟩
  | some B :: Γ, s :: σ, h, i + 1, A, ⟨w, g1, g2, a0, b0, c0, d0⟩, e => by
    obtain ⟨v, h1, h2, a, b, c, d⟩ := Sat.at (Γ := Γ) (σ := σ) (h := g2) (i := i) d0 (by simpa using e)
    refine ⟨v, h1, g1 ++ h2, by simpa using a, ?_, c, fun F' A' v' h1' s q => ?_⟩
    · rw [b0]
      exact (List.Perm.append_left g1 b).trans (by
        rw [← List.append_assoc, ← List.append_assoc]
        exact (List.perm_append_comm).append_right _)
    · obtain ⟨h', p, r⟩ := d F' A' v' h1' s q
      refine ⟨g1 ++ h', ?_, w, g1, h', a0, rfl, B.mono s c0, r⟩
      exact (List.Perm.append_left g1 p).trans (by
        rw [← List.append_assoc, ← List.append_assoc]
        exact (List.perm_append_comm).append_right _)
  | [], [], _, _, _, _, e => by cases e
/-- a slot is stored: what it owned is dropped -/
theorem Sat.put {F : Hp} : ∀ {Γ : Asrt} {σ : L2.St} {h hv : HL} {i : Nat} {A : VA} {v : V}, Sat Γ σ F h → i < Γ.length → A.p v F hv →
    ∃ h' h0, h'.Sublist h ∧ h0.Perm (hv ++ h') ∧ Sat (Γ.set i (some A)) (σ.set i (some v)) F h0
  | none :: Γ, s :: σ, h, hv, 0, A, v, q, l, a => ⟨h, hv ++ h, .refl _, .refl _, v, hv, h, rfl, rfl, a, q⟩
  | some B :: Γ, s :: σ, h, hv, 0, A, v, ⟨w, g1, g2, a0, b0, c0, d0⟩, l, a => ⟨g2, hv ++ g2, by rw [b0]; exact List.sublist_append_right _ _, .refl _, v, hv, g2, rfl, rfl, a, d0⟩
  | none :: Γ, s :: σ, h, hv, i + 1, A, v, q, l, a => by
    obtain ⟨h', h0, e1, e2, e3⟩ := Sat.put (Γ := Γ) (σ := σ) (h := h) (i := i) q (by simpa using l) a
    exact ⟨h', h0, e1, e2, e3⟩
  | some B :: Γ, s :: σ, h, hv, i + 1, A, v, ⟨w, g1, g2, a0, b0, c0, d0⟩, l, a => by
    obtain ⟨h', h0, e1, e2, e3⟩ := Sat.put (Γ := Γ) (σ := σ) (h := g2) (i := i) d0 (by simpa using l) a
    refine ⟨g1 ++ h', g1 ++ h0, by rw [b0]; exact List.Sublist.append_left e1 _, ?_, w, g1, h0, a0, rfl, c0, e3⟩
    exact (List.Perm.append_left g1 e2).trans (by
      rw [← List.append_assoc, ← List.append_assoc]
      exact (List.perm_append_comm).append_right _)
  | [], [], _, _, _, _, _, _, l, _ => absurd l (Nat.not_lt_zero _)
/-- weaker slots -/
inductive Le : Asrt → Asrt → Prop
  | nil : Le [] []
  | keep {A Γ Δ} : Le Γ Δ → Le (A :: Γ) (A :: Δ)
  | drop {A Γ Δ} : Le Γ Δ → Le (A :: Γ) (none :: Δ)
theorem Le.sat {F : Hp} {Γ Δ : Asrt} (l : Le Γ Δ) : ∀ {σ : L2.St} {h : HL}, Sat Γ σ F h → ∃ h', h'.Sublist h ∧ Sat Δ σ F h' := by
  induction l with
  | nil => intro σ h q; exact ⟨h, .refl _, q⟩
  | @keep A Γ Δ l ih =>
    intro σ h q
    cases σ with
    | nil => cases A <;> exact q.elim
    | cons s σ =>
      cases A with
      | none => exact ih (σ := σ) q
      | some A =>
        obtain ⟨v, h1, h2, a, b, c, d⟩ := q
        obtain ⟨h', e, r⟩ := ih d
        exact ⟨h1 ++ h', by rw [b]; exact List.Sublist.append_left e _, v, h1, h', a, rfl, c, r⟩
  | @drop A Γ Δ l ih =>
    intro σ h q
    cases σ with
    | nil => cases A <;> exact q.elim
    | cons s σ =>
      cases A with
      | none => exact ih (σ := σ) q
      | some A =>
        obtain ⟨v, h1, h2, a, b, c, d⟩ := q
        obtain ⟨h', e, r⟩ := ih d
        exact ⟨h', by rw [b]; exact e.trans (List.sublist_append_right _ _), r⟩
/-- the slots at vs forgotten -/
def wipeA (Γ : Asrt) : List Nat → Asrt
  | [] => Γ
  | v :: vs => (wipeA Γ vs).set v none
theorem Sat.unset {F : Hp} : ∀ {Γ : Asrt} {σ : L2.St} {h : HL} {s : Option V} (i : Nat), Sat Γ σ F h → ∃ h', h'.Sublist h ∧ Sat (Γ.set i none) (σ.set i s) F h'
  | none :: Γ, s :: σ, h, t, 0, q => ⟨h, .refl _, q⟩
  | some B :: Γ, s :: σ, h, t, 0, ⟨w, g1, g2, a0, b0, c0, d0⟩ => ⟨g2, by rw [b0]; exact List.sublist_append_right _ _, d0⟩
  | none :: Γ, s :: σ, h, t, i + 1, q => by
    obtain ⟨h', e1, e2⟩ := Sat.unset (Γ := Γ) (σ := σ) (h := h) (s := t) i q
    exact ⟨h', e1, e2⟩
  | some B :: Γ, s :: σ, h, t, i + 1, ⟨w, g1, g2, a0, b0, c0, d0⟩ => by
    obtain ⟨h', e1, e2⟩ := Sat.unset (Γ := Γ) (σ := σ) (h := g2) (s := t) i d0
    exact ⟨g1 ++ h', by rw [b0]; exact List.Sublist.append_left e1 _, w, g1, h', a0, rfl, c0, e2⟩
  | [], [], h, _, _, q => ⟨h, .refl _, q⟩
theorem Sat.wipe {F : Hp} {Γ : Asrt} {σ : L2.St} {h : HL} (q : Sat Γ σ F h) : ∀ vs : List Nat, ∃ h', h'.Sublist h ∧ Sat (wipeA Γ vs) (wipe σ vs) F h'
  | [] => ⟨h, .refl _, q⟩
  | v :: vs => by
    obtain ⟨h1, e1, q1⟩ := Sat.wipe q vs
    obtain ⟨h2, e2, q2⟩ := Sat.unset (s := none) v q1
    exact ⟨h2, e2.trans e1, q2⟩
end Sm

set_option Elab.async false
set_option linter.all false
set_option maxRecDepth 100000
set_option maxHeartbeats 4000000
namespace Sm
open PySem PySem.Spec PyProof.Rows L2

/-! ### contexts in families: a def's body, the blocks of its comprehensions -/
structure Fm (P : Program) (w : World) (K : PySem.W.Frag) (mg : Str → Option Value) (base : Heap) (N : List Str) (sc : Scope) (fn : Str → Bool) (k : Nat) where
  ι : Type
  X : ι → Cx
  prog : ∀ i, (X i).prog = P
  wd : ∀ i, (X i).w = w
  kf : ∀ i, (X i).K = K
  mgl : ∀ i, (X i).mg = mg
  bas : ∀ i, (X i).base = base
  nn : ∀ i, (X i).N = N
  scp : ∀ i, (X i).env.scope = sc
  calm : ∀ i, (X i).calm = true
  room : ∀ i, Room k (X i).A
  pass : ∀ i, PassesOwn (model (X i).prog (X i).w) (X i).A (X i).env (X i).xe
  fnl : ∀ i x, fn x = true → (X i).fn x = true
  nd : N.Nodup
section
variable {P : Program} {w : World} {K : PySem.W.Frag} {mg : Str → Option Value} {base : Heap} {N : List Str} {sc : Scope} {fn : Str → Bool} {k : Nat}

def rdE (M : Fm P w K mg base N sc fn k) (e : Expr) : TE := fun σ H Q => ∃ t, (∀ i, PE (M.X i) e t) ∧ t σ H Q
def rdT (M : Fm P w K mg base N sc fn k) (e : Expr) : TT := fun σ H Q => ∃ t, (∀ i, PT (M.X i) e t) ∧ t σ H Q
def rdW (M : Fm P w K mg base N sc fn k) (e : Expr) : TT := fun σ H Q => ∃ t, (∀ i, PW (M.X i) e t) ∧ t σ H Q
def rdA (M : Fm P w K mg base N sc fn k) (es : List Expr) : TA := fun σ H Q => ∃ t, (∀ i, PA (M.X i) es t) ∧ t σ H Q
def rdS (M : Fm P w K mg base N sc fn k) (st : Stmt) : TS := fun D σ H => ∃ t, (∀ i, PS (M.X i) st t) ∧ t D σ H
def rdSs (M : Fm P w K mg base N sc fn k) (st : List Stmt) : TS := fun D σ H => ∃ t, (∀ i, PSs (M.X i) st t) ∧ t D σ H
def rdI (M : Fm P w K mg base N sc fn k) (tg e : Expr) : TI := fun σ H R => ∃ t, (∀ i, PI (M.X i) tg e t) ∧ t σ H R
def rdG (M : Fm P w K mg base N sc fn k) (tg : Expr) : TG := fun v σ H Q => ∃ t, (∀ i, PG (M.X i) tg t) ∧ t v σ H Q
def rdGs (M : Fm P w K mg base N sc fn k) (tg : List Expr) : TGs := fun v σ H Q => ∃ t, (∀ i, PGs (M.X i) tg t) ∧ t v σ H Q
def rdO (M : Fm P w K mg base N sc fn k) (e : Option Expr) : TO := fun σ H Q => ∃ t, (∀ i, PO (M.X i) e t) ∧ t σ H Q
def rdTs (M : Fm P w K mg base N sc fn k) (es : List Expr) : TT := fun σ H Q => ∃ t, (∀ i, PTs (M.X i) es t) ∧ t σ H Q
variable {M : Fm P w K mg base N sc fn k}
theorem rdE_ok (i) {e} : PE (M.X i) e (rdE M e) := ⟨fun pins s σ H Q I ⟨t, h, q⟩ => (h i).run pins s σ H Q I q⟩
theorem rdT_ok (i) {e} : PT (M.X i) e (rdT M e) := ⟨fun pins s σ H Q I ⟨t, h, q⟩ => (h i).run pins s σ H Q I q⟩
theorem rdW_ok (i) {e} : PW (M.X i) e (rdW M e) := ⟨fun wh pins s σ H Q I ⟨t, h, q⟩ => (h i).run wh pins s σ H Q I q⟩
theorem rdA_ok (i) {e} : PA (M.X i) e (rdA M e) := ⟨fun pos pins s σ H Q I ⟨t, h, q⟩ => (h i).run pos pins s σ H Q I q⟩
theorem rdS_ok (i) {e} : PS (M.X i) e (rdS M e) := ⟨fun pins s σ H D I ⟨t, h, q⟩ => (h i).run pins s σ H D I q⟩
theorem rdSs_ok (i) {e} : PSs (M.X i) e (rdSs M e) := ⟨fun pins s σ H D I ⟨t, h, q⟩ => (h i).run pins s σ H D I q⟩
theorem rdI_ok (i) {tg e} : PI (M.X i) tg e (rdI M tg e) := ⟨fun pins s σ H Q I ⟨t, h, q⟩ => (h i).run pins s σ H Q I q⟩
theorem rdG_ok (i) {e} : PG (M.X i) e (rdG M e) := ⟨fun pins s σ H v u Q I r ⟨t, h, q⟩ => (h i).run pins s σ H v u Q I r q⟩
theorem rdGs_ok (i) {e} : PGs (M.X i) e (rdGs M e) := ⟨fun pins s σ H v u Q I r ⟨t, h, q⟩ => (h i).run pins s σ H v u Q I r q⟩
theorem rdO_ok (i) {e} : PO (M.X i) e (rdO M e) := ⟨fun pins s σ H Q I ⟨t, h, q⟩ => (h i).run pins s σ H Q I q⟩
theorem rdTs_ok (i) {e} : PTs (M.X i) e (rdTs M e) := ⟨fun pins s σ H Q I ⟨t, h, q⟩ => (h i).run pins s σ H Q I q⟩

/-! ### states -/
variable {S : Type}
def Stt (O : S → Res) (HI : Hp) (Γ : Asrt) (s : S) (σ : L2.St) (F H : Hp) : Prop :=
  ∃ h1 h2, Sat Γ σ F h1 ∧ (O s).p F h2 ∧ Ok F (h1 ++ h2) HI H
def SttV (O : S → Res) (HI : Hp) (Γ : Asrt) (s : S) (σ : L2.St) (F H : Hp) (A : VA) (v : V) : Prop :=
  ∃ hv h1 h2, A.p v F hv ∧ Sat Γ σ F h1 ∧ (O s).p F h2 ∧ Ok F (hv ++ (h1 ++ h2)) HI H
section
variable {O : S → Res} {HI F F' H : Hp} {Γ : Asrt} {s : S} {σ : L2.St} {A : VA} {v : V} {p : Addr} {o : HO} {α : Type} {r : RP α} {x : α}
theorem SttV.fz (h : SttV O HI Γ s σ F H (fz r x) v) : r.r x v F ∧ Stt O HI Γ s σ F H := by
  obtain ⟨hv, h1, h2, ⟨e, a⟩, b, c, d⟩ := h
  subst e
  exact ⟨a, h1, h2, b, c, d⟩
theorem Stt.val (h : Stt O HI Γ s σ F H) (a : r.r x v F) : SttV O HI Γ s σ F H (Sm.fz r x) v := by
  obtain ⟨h1, h2, b, c, d⟩ := h
  exact ⟨[], h1, h2, ⟨rfl, a⟩, b, c, d⟩
theorem Stt.ok (h : Stt O HI Γ s σ F H) : Same F H := by obtain ⟨h1, h2, b, c, d⟩ := h; exact d.fz
theorem Stt.free (h : Stt O HI Γ s σ F H) (n : H p = none) : F p = none := by obtain ⟨h1, h2, b, c, d⟩ := h; exact (d.free n).1
theorem Stt.newF (h : Stt O HI Γ s σ F H) (n : H p = none) : Same F (upd F p o) ∧ Stt O HI Γ s σ (upd F p o) (upd H p o) := by
  obtain ⟨h1, h2, b, c, d⟩ := h
  have e : Same F (upd F p o) := same_upd (d.free n).1
  exact ⟨e, h1, h2, b.mono e, (O s).mono e c, d.newF n⟩
theorem Stt.newV (h : Stt O HI Γ s σ F H) (n : H p = none) (a : A.p v F [(p, o)]) (ho : NT o := by trivial) : SttV O HI Γ s σ F (upd H p o) A v := by
  obtain ⟨h1, h2, b, c, d⟩ := h
  exact ⟨[(p, o)], h1, h2, a, b, c, d.newO n ho⟩
theorem SttV.drop (h : SttV O HI Γ s σ F H A v) : Stt O HI Γ s σ F H := by
  obtain ⟨hv, h1, h2, a, b, c, d⟩ := h
  exact ⟨h1, h2, b, c, d.sub (List.sublist_append_right _ _)⟩
/-- a variable's slot -/
theorem Stt.slot {i : Nat} (h : Stt O HI Γ s σ F H) (e : Γ[i]? = some (some (Sm.fz r x))) : ∃ v, σ[i]? = some (some v) ∧ r.r x v F := by
  obtain ⟨h1, h2, b, c, d⟩ := h
  obtain ⟨v, g1, g2, a1, a2, ⟨a3, a4⟩, _⟩ := b.at e
  exact ⟨v, a1, a4⟩
theorem Stt.put {i : Nat} (h : SttV O HI Γ s σ F H A v) (l : i < Γ.length) : Stt O HI (Γ.set i (some A)) s (σ.set i (some v)) F H := by
  obtain ⟨hv, h1, h2, a, b, c, d⟩ := h
  obtain ⟨h', h0, e1, e2, e3⟩ := b.put l a
  refine ⟨h0, h2, e3, c, ?_⟩
  refine (d.sub (h' := hv ++ (h' ++ h2)) (List.Sublist.append_left (List.Sublist.append_right e1 _) _)).perm ?_
  rw [← List.append_assoc]
  exact (e2.symm).append_right _
theorem Stt.le {Δ : Asrt} (h : Stt O HI Γ s σ F H) (l : Le Γ Δ) : Stt O HI Δ s σ F H := by
  obtain ⟨h1, h2, b, c, d⟩ := h
  obtain ⟨h', e, q⟩ := l.sat b
  exact ⟨h', h2, q, c, d.sub (List.Sublist.append_right e _)⟩
theorem Stt.len (h : Stt O HI Γ s σ F H) : Γ.length = σ.length := by obtain ⟨h1, h2, b, c, d⟩ := h; exact b.length
end

/-! ### judgements -/
/-- an expression: from the slots Γ and the resource's state s a value (and what it owns), by the word w -/
def XE (M : Fm P w K mg base N sc fn k) {ρ : Type} (O : S → Res) (Γ : Asrt) (s : S) (e : Expr) (A : ρ → VA) (W : (ρ → S → Prop) → Prop) : Prop :=
  ∀ (HI : Hp) (C : ρ → S → Prop) (Q : VK) (σ : L2.St) (F H : Hp), Stt O HI Γ s σ F H →
    (∀ x s' v F' H', C x s' → Same F F' → SttV O HI Γ s' σ F' H' (A x) v → Q v H') → W C → rdE M e σ H Q
/-- a test -/
def XT (M : Fm P w K mg base N sc fn k) (O : S → Res) (Γ : Asrt) (s : S) (e : Expr) (W : (Bool → S → Prop) → Prop) : Prop :=
  ∀ (HI : Hp) (C : Bool → S → Prop) (Q : Bool → Hp → Prop) (σ : L2.St) (F H : Hp), Stt O HI Γ s σ F H →
    (∀ x s' F' H', C x s' → Same F F' → Stt O HI Γ s' σ F' H' → Q x H') → W C → rdT M e σ H Q
def XW (M : Fm P w K mg base N sc fn k) (O : S → Res) (Γ : Asrt) (s : S) (e : Expr) (W : (Bool → S → Prop) → Prop) : Prop :=
  ∀ (HI : Hp) (C : Bool → S → Prop) (Q : Bool → Hp → Prop) (σ : L2.St) (F H : Hp), Stt O HI Γ s σ F H →
    (∀ x s' F' H', C x s' → Same F F' → Stt O HI Γ s' σ F' H' → Q x H') → W C → rdW M e σ H Q
/-- a comparison by values -/
def XC (M : Fm P w K mg base N sc fn k) (O : S → Res) (Γ : Asrt) (s : S) (op : CmpOp) (a b : Expr) (W : (Bool → S → Prop) → Prop) : Prop :=
  ∀ (HI : Hp) (C : Bool → S → Prop) (Q : VK) (σ : L2.St) (F H : Hp), Stt O HI Γ s σ F H →
    (∀ x s' F' H', C x s' → Same F F' → Stt O HI Γ s' σ F' H' → Q (.bl x) H') → W C → ∃ r, (∀ i, OpR (M.X i) (compareOp op) r) ∧ tOp r (rdE M a) (rdE M b) σ H Q
/-- arguments: all frozen -/
def AllV : List VA → List V → Hp → Prop
  | [], [], _ => True
  | A :: As, v :: vs, F => A.p v F [] ∧ AllV As vs F
  | _, _, _ => False
theorem AllV.mono {F F' : Hp} (e : Same F F') : ∀ {As : List VA} {vs : List V}, AllV As vs F → AllV As vs F'
  | [], [], q => q
  | A :: As, v :: vs, q => ⟨A.mono e q.1, AllV.mono e q.2⟩
def XA (M : Fm P w K mg base N sc fn k) {ρ : Type} (O : S → Res) (Γ : Asrt) (s : S) (es : List Expr) (A : ρ → List VA) (W : (ρ → S → Prop) → Prop) : Prop :=
  ∀ (HI : Hp) (C : ρ → S → Prop) (Q : List V → Hp → Prop) (σ : L2.St) (F H : Hp), Stt O HI Γ s σ F H →
    (∀ x s' vs F' H', C x s' → Same F F' → AllV (A x) vs F' → Stt O HI Γ s' σ F' H' → Q vs H') → W C → rdA M es σ H Q
/-- a walk's items -/
def JOk (J : It) {α : Type} (r : RP α) (xs : List α) (F : Hp) : Prop :=
  ∀ F1, Same F F1 → ∀ (HI : Hp) (h : HL) (H : Hp), Ok F1 h HI H → (∀ i x, xs[i]? = some x → J.go i H ∧ ∀ v H', J.yld i H v H' → ∃ F2, Same F1 F2 ∧ Ok F2 h HI H' ∧ r.r x v F2) ∧ J.stop xs.length H
def XI (M : Fm P w K mg base N sc fn k) {α : Type} (O : S → Res) (Γ : Asrt) (s : S) (tg e : Expr) (r : RP α) (W : (List α → S → Prop) → Prop) : Prop :=
  ∀ (HI : Hp) (C : List α → S → Prop) (R : It → Hp → Prop) (σ : L2.St) (F H : Hp), Stt O HI Γ s σ F H →
    (∀ xs s' J F' H', C xs s' → Same F F' → Stt O HI Γ s' σ F' H' → JOk J r xs F' → R J H') → W C → rdI M tg e σ H R
/-- a target: the slots in L are stored -/
def XG (M : Fm P w K mg base N sc fn k) {α : Type} (tg : Expr) (r : RP α) (g : α → Asrt → Asrt) (L : List Nat) : Prop :=
  ∀ {S : Type} (O : S → Res) (HI : Hp) (Γ : Asrt) (s : S) (σ : L2.St) (F H : Hp) (x : α) (v : V) (Q : L2.St → Hp → Prop), Γ.length = N.length → Stt O HI Γ s σ F H → r.r x v F →
    (∀ σ', σ'.length = σ.length → (∀ i, i ∉ L → σ'[i]? = σ[i]?) → Stt O HI (g x Γ) s σ' F H → Q σ' H) → rdG M tg v σ H Q

/-- behind a statement -/
def nxJ {γ : Type} (O : S → Res) (HI F0 : Hp) (Γn : γ → Asrt) (kn : γ → S → Prop) : L2.St → Hp → Prop := fun σ H => ∃ g s F, kn g s ∧ Same F0 F ∧ Stt O HI (Γn g) s σ F H
def rtJ {ρ : Type} (O : S → Res) (HI F0 : Hp) (A : ρ → VA) (R : ρ → S → Prop) : VK := fun v H => ∃ y s F, R y s ∧ Same F0 F ∧ SttV O HI [] s [] F H (A y) v
def XSs (M : Fm P w K mg base N sc fn k) (O : S → Res) (HI F0 : Hp) (Γ : Asrt) (s : S) (sts : List Stmt) (D : Ends) (Pf : Prop) : Prop :=
  ∀ (σ : L2.St) (F H : Hp), Same F0 F → Stt O HI Γ s σ F H → Pf → rdSs M sts D σ H
end
end Sm

set_option Elab.async false
set_option linter.all false
set_option maxRecDepth 100000
set_option maxHeartbeats 4000000
namespace Sm
open PySem PySem.Spec PyProof.Rows L2

/-- ==, in: as Lean tells -/
def eqB {α : Type} [DecidableEq α] (x y : α) : Bool := decide (x = y)
def memB {α : Type} [DecidableEq α] (x : α) (xs : List α) : Bool := decide (x ∈ xs)
@[simp] theorem eqB_iff {α : Type} [DecidableEq α] {x y : α} : eqB x y = true ↔ x = y := by simp [eqB]
@[simp] theorem memB_iff {α : Type} [DecidableEq α] {x : α} {xs : List α} : memB x xs = true ↔ x ∈ xs := by simp [memB]
/-! ### kinds of data -/
abbrev Text := List Nat
def pI : RP Int := ⟨fun i v _ => v = .int i, fun _ q => q⟩
def pB : RP Bool := ⟨fun i v _ => v = .bl i, fun _ q => q⟩
abbrev okT (x : Text) : Prop := ∀ c ∈ x, c < 1114112
def pT : RP Text := ⟨fun i v _ => v = .str ⟨i.toArray⟩ ∧ okT i, fun _ q => q⟩
theorem okT.append {x y : Text} (a : okT x) (b : okT y) : okT (x ++ y) := fun c hc => (List.mem_append.mp hc).elim (a c) (b c)
def pN : RP Unit := ⟨fun _ v _ => v = .non, fun _ q => q⟩
def pA : RP Addr := ⟨fun a v _ => v = .ref a, fun _ q => q⟩
def All2 {α : Type} (p : α → V → Prop) : List α → List V → Prop
  | [], [] => True
  | x :: xs, v :: vs => p x v ∧ All2 p xs vs
  | _, _ => False
section
variable {α β : Type} {p q : α → V → Prop}
theorem All2.imp (h : ∀ x v, p x v → q x v) : ∀ {xs : List α} {vs : List V}, All2 p xs vs → All2 q xs vs
  | [], [], _ => trivial
  | _ :: _, _ :: _, ⟨a, b⟩ => ⟨h _ _ a, All2.imp h b⟩
theorem All2.length : ∀ {xs : List α} {vs : List V}, All2 p xs vs → xs.length = vs.length
  | [], [], _ => rfl
  | _ :: _, _ :: _, ⟨_, b⟩ => congrArg (· + 1) (All2.length b)
theorem All2.get : ∀ {xs : List α} {vs : List V} {i : Nat} {x : α}, All2 p xs vs → xs[i]? = some x → ∃ v, vs[i]? = some v ∧ p x v
  | [], [], _, _, _, e => by simp at e
  | x :: xs, v :: vs, 0, y, ⟨a, _⟩, e => ⟨v, rfl, by have e' : x = y := Option.some.inj e; subst e'; exact a⟩
  | x :: xs, v :: vs, i + 1, y, ⟨_, b⟩, e => All2.get (i := i) b (by simpa using e)
theorem All2.append : ∀ {xs ys : List α} {vs ws : List V}, All2 p xs vs → All2 p ys ws → All2 p (xs ++ ys) (vs ++ ws)
  | [], _, [], _, _, b => b
  | _ :: _, _, _ :: _, _, ⟨a, c⟩, b => ⟨a, All2.append c b⟩
theorem All2.drop : ∀ {xs : List α} {vs : List V} (n : Nat), All2 p xs vs → All2 p (xs.drop n) (vs.drop n)
  | _, _, 0, h => h
  | [], [], _ + 1, h => h
  | _ :: _, _ :: _, n + 1, ⟨_, b⟩ => All2.drop n b
theorem All2.take : ∀ {xs : List α} {vs : List V} (n : Nat), All2 p xs vs → All2 p (xs.take n) (vs.take n)
  | _, _, 0, _ => trivial
  | [], [], _ + 1, _ => trivial
  | _ :: _, _ :: _, n + 1, ⟨a, b⟩ => ⟨a, All2.take n b⟩
theorem All2.set : ∀ {xs : List α} {vs : List V} {x : α} {v : V} (i : Nat), All2 p xs vs → p x v → All2 p (xs.set i x) (vs.set i v)
  | [], [], _, _, _, h, _ => h
  | _ :: _, _ :: _, _, _, 0, ⟨_, b⟩, a => ⟨a, b⟩
  | _ :: _, _ :: _, _, _, i + 1, ⟨c, b⟩, a => ⟨c, All2.set i b a⟩
theorem All2.eraseIdx : ∀ {xs : List α} {vs : List V} (i : Nat), All2 p xs vs → All2 p (xs.eraseIdx i) (vs.eraseIdx i)
  | [], [], _, h => h
  | _ :: _, _ :: _, 0, ⟨_, b⟩ => b
  | _ :: _, _ :: _, i + 1, ⟨c, b⟩ => ⟨c, All2.eraseIdx i b⟩
theorem All2.dropLast : ∀ {xs : List α} {vs : List V}, All2 p xs vs → All2 p xs.dropLast vs.dropLast
  | [], [], h => h
  | [_], [_], _ => trivial
  | _ :: _ :: _, _ :: _ :: _, ⟨a, b⟩ => ⟨a, All2.dropLast b⟩
  | [_], _ :: _ :: _, ⟨_, b⟩ => b.elim
  | _ :: _ :: _, [_], ⟨_, b⟩ => b.elim
theorem All2.map_eq {f : α → V} : ∀ {xs : List α} {vs : List V}, All2 (fun x v => v = f x) xs vs → vs = xs.map f
  | [], [], _ => rfl
  | _ :: _, _ :: _, ⟨a, b⟩ => by rw [a, All2.map_eq b]; rfl
theorem All2.of_map {f : α → V} : ∀ (xs : List α), All2 (fun x v => v = f x) xs (xs.map f)
  | [] => trivial
  | _ :: xs => ⟨rfl, All2.of_map xs⟩
theorem All2.reverse : ∀ {xs : List α} {vs : List V}, All2 p xs vs → All2 p xs.reverse vs.reverse
  | [], [], h => h
  | _ :: _, _ :: _, ⟨a, b⟩ => by rw [List.reverse_cons, List.reverse_cons]; exact (All2.reverse b).append ⟨a, trivial⟩
theorem All2.rep {xs : List α} {vs : List V} (h : All2 p xs vs) : ∀ k : Nat, All2 p (List.replicate k xs).flatten (List.replicate k vs).flatten
  | 0 => trivial
  | k + 1 => by rw [List.replicate_succ, List.replicate_succ, List.flatten_cons, List.flatten_cons]; exact h.append (All2.rep h k)
end
theorem SqL.mono {K : PySem.W.Frag} {H H' : Hp} {a : Addr} {xs : List V} (e : Same H H') (h : SqL K H a xs) : SqL K H' a xs := e.seq h
theorem SqT.mono {K : PySem.W.Frag} {H H' : Hp} {a : Addr} {xs : List V} (e : Same H H') (h : SqT K H a xs) : SqT K H' a xs := by
  rcases h with (h | ⟨o, h⟩) | h
  · exact .inl (.inl (e _ _ h))
  · exact .inl (.inr ⟨o, e _ _ h⟩)
  · exact .inr h
section
variable (K : PySem.W.Frag) {α β γ : Type}
/-- a list, a tuple of things of one kind; a pair, a triple; None or such; of one of two kinds -/
def pL (r : RP α) : RP (List α) := ⟨fun xs v F => ∃ a vs, v = .ref a ∧ SqL K F a vs ∧ All2 (fun x u => r.r x u F) xs vs,
  fun e ⟨a, vs, h1, h2, h3⟩ => ⟨a, vs, h1, SqL.mono e h2, h3.imp fun _ _ q => r.mono e q⟩⟩
def pU (r : RP α) : RP (List α) := ⟨fun xs v F => ∃ a vs, v = .ref a ∧ SqT K F a vs ∧ All2 (fun x u => r.r x u F) xs vs,
  fun e ⟨a, vs, h1, h2, h3⟩ => ⟨a, vs, h1, SqT.mono e h2, h3.imp fun _ _ q => r.mono e q⟩⟩
def pP (r : RP α) (q : RP β) : RP (α × β) := ⟨fun x v F => ∃ a u1 u2, v = .ref a ∧ SqT K F a [u1, u2] ∧ r.r x.1 u1 F ∧ q.r x.2 u2 F,
  fun e ⟨a, u1, u2, h1, h2, h3, h4⟩ => ⟨a, u1, u2, h1, SqT.mono e h2, r.mono e h3, q.mono e h4⟩⟩
def pP3 (r : RP α) (q : RP β) (t : RP γ) : RP (α × β × γ) := ⟨fun x v F => ∃ a u1 u2 u3, v = .ref a ∧ SqT K F a [u1, u2, u3] ∧ r.r x.1 u1 F ∧ q.r x.2.1 u2 F ∧ t.r x.2.2 u3 F,
  fun e ⟨a, u1, u2, u3, h1, h2, h3, h4, h5⟩ => ⟨a, u1, u2, u3, h1, SqT.mono e h2, r.mono e h3, q.mono e h4, t.mono e h5⟩⟩
def pO (r : RP α) : RP (Option α) := ⟨fun x v F => match x with | none => v = .non | some y => v ≠ .non ∧ r.r y v F,
  fun {x v F F'} e h => by cases x with | none => exact h | some y => exact ⟨h.1, r.mono e h.2⟩⟩
/-- a list that is owned: it may be changed -/
def ol (r : RP α) (xs : List α) : VA := ⟨fun v F h => ∃ a vs, v = .ref a ∧ h = [(a, .lst vs)] ∧ All2 (fun x u => r.r x u F) xs vs,
  fun e ⟨a, vs, h1, h2, h3⟩ => ⟨a, vs, h1, h2, h3.imp fun _ _ q => r.mono e q⟩⟩
end
section
variable {P : Program} {w : World} {K : PySem.W.Frag} {mg : Str → Option Value} {base : Heap} {N : List Str} {sc : Scope} {fn : Str → Bool} {k : Nat} {M : Fm P w K mg base N sc fn k}
variable {S : Type} {O : S → Res} {Γ : Asrt} {s : S} {α β ρ : Type} {ra : RP α} {rb : RP β} {A : ρ → VA}

/-! ### rules by values -/
def Op1 (r : V → Hp → VK → Prop) (ra : RP α) (A : ρ → VA) (Wo : α → (ρ → Prop) → Prop) : Prop :=
  ∀ {S : Type} (O : S → Res) (HI : Hp) (Γ : Asrt) (s : S) (σ : L2.St) (F H : Hp) (x : α) (u : V) (C : ρ → Prop) (Q : VK), Stt O HI Γ s σ F H → ra.r x u F →
    (∀ z v' F' H', C z → Same F F' → SttV O HI Γ s σ F' H' (A z) v' → Q v' H') → Wo x C → r u H Q
def Op2 (r : R2) (ra : RP α) (rb : RP β) (A : ρ → VA) (Wo : α → β → (ρ → Prop) → Prop) : Prop :=
  ∀ {S : Type} (O : S → Res) (HI : Hp) (Γ : Asrt) (s : S) (σ : L2.St) (F H : Hp) (x : α) (y : β) (u v : V) (C : ρ → Prop) (Q : VK), Stt O HI Γ s σ F H → ra.r x u F → rb.r y v F →
    (∀ z v' F' H', C z → Same F F' → SttV O HI Γ s σ F' H' (A z) v' → Q v' H') → Wo x y C → r u v H Q
theorem Stt.same {HI F H : Hp} {σ : L2.St} (h : Stt O HI Γ s σ F H) : Same F H := h.ok

theorem two {a b : Expr} {wa : (α → S → Prop) → Prop} {wb : S → (β → S → Prop) → Prop} (ha : XE M O Γ s a (fz ra) wa) (hb : ∀ s', XE M O Γ s' b (fz rb) (wb s'))
    {HI : Hp} {C : α → β → S → Prop} {R : V → V → Hp → Prop} {σ : L2.St} {F H : Hp} (st : Stt O HI Γ s σ F H)
    (hr : ∀ x y s' u v F' H', C x y s' → Same F F' → ra.r x u F' → rb.r y v F' → Stt O HI Γ s' σ F' H' → R u v H') (hc : wa fun x s1 => wb s1 fun y s2 => C x y s2) :
    rdE M a σ H fun u H1 => rdE M b σ H1 fun v H2 => R u v H2 := by
  refine ha HI _ _ σ F H st (fun x s1 u F1 H1 c1 e1 sv1 => ?_) hc
  obtain ⟨rx, st1⟩ := sv1.fz
  refine hb s1 HI _ _ σ F1 H1 st1 (fun y s2 v F2 H2 c2 e2 sv2 => ?_) c1
  obtain ⟨ry, st2⟩ := sv2.fz
  exact hr x y s2 u v F2 H2 c2 (e1.trans e2) (ra.mono e2 rx) ry st2
theorem xe_bin {a b : Expr} {op : Operator} {pos : Pos} {r : R2} {Wo : α → β → (ρ → Prop) → Prop} {wa : (α → S → Prop) → Prop} {wb : S → (β → S → Prop) → Prop}
    (ho : ∀ i, OpR (M.X i) (binaryOp op) r) (hr : Op2 r ra rb A Wo) (ha : XE M O Γ s a (fz ra) wa) (hb : ∀ s', XE M O Γ s' b (fz rb) (wb s')) :
    XE M O Γ s (.BinOp a op b pos) A (fun k => wa fun x s1 => wb s1 fun y s2 => Wo x y fun z => k z s2) := by
  intro HI C Q σ F H st hq hc
  refine ⟨_, fun i => pe_op (ho i) (rdE_ok i) (rdE_ok i), two ha hb st (fun x y s' u v F' H' c e rx ry st' => ?_) hc⟩
  exact hr O HI Γ s' σ F' H' x y u v _ Q st' rx ry (fun z v' F2 H2 c2 e2 sv => hq z s' v' F2 H2 c2 (e.trans e2) sv) c
theorem xe_un {a : Expr} {op : UnaryOp} {pos : Pos} {r : V → Hp → VK → Prop} {Wo : α → (ρ → Prop) → Prop} {wa : (α → S → Prop) → Prop}
    (ho : ∀ i, UnR (M.X i) (unaryOp op) r) (hr : Op1 r ra A Wo) (ha : XE M O Γ s a (fz ra) wa) :
    XE M O Γ s (.UnaryOp op a pos) A (fun k => wa fun x s1 => Wo x fun z => k z s1) := by
  intro HI C Q σ F H st hq hc
  refine ⟨_, fun i => pe_un (ho i) (rdE_ok i), ha HI _ _ σ F H st (fun x s1 u F1 H1 c1 e1 sv1 => ?_) hc⟩
  obtain ⟨rx, st1⟩ := sv1.fz
  exact hr O HI Γ s1 σ F1 H1 x u _ Q st1 rx (fun z v' F2 H2 c2 e2 sv => hq z s1 v' F2 H2 c2 (e1.trans e2) sv) c1
theorem xc_op {a b : Expr} {op : CmpOp} {r : R2} {Wo : α → β → (Bool → Prop) → Prop} {wa : (α → S → Prop) → Prop} {wb : S → (β → S → Prop) → Prop}
    (ho : ∀ i, OpR (M.X i) (compareOp op) r) (hr : Op2 r ra rb (fz pB) Wo) (ha : XE M O Γ s a (fz ra) wa) (hb : ∀ s', XE M O Γ s' b (fz rb) (wb s')) :
    XC M O Γ s op a b (fun k => wa fun x s1 => wb s1 fun y s2 => Wo x y fun z => k z s2) := by
  intro HI C Q σ F H st hq hc
  refine ⟨r, ho, two ha hb st (fun x y s' u v F' H' c e rx ry st' => ?_) hc⟩
  refine hr O HI Γ s' σ F' H' x y u v _ Q st' rx ry (fun z v' F2 H2 c2 e2 sv => ?_) c
  obtain ⟨rz, st2⟩ := sv.fz
  have rz : v' = .bl z := rz
  subst rz
  exact hq z s' F2 H2 c2 (e.trans e2) st2
def Mrk (op : CmpOp) (b : Expr) : Prop := behindInMarks op b = false
theorem xe_cmp {a b : Expr} {op : CmpOp} {pos : Pos} {W : (Bool → S → Prop) → Prop} (h : XC M O Γ s op a b W) (hm : behindInMarks op b = false := by first | exact nomark _ | rfl) : XE M O Γ s (.Compare a [op] [b] pos) (fz pB) W := by
  intro HI C Q σ F H st hq hc
  obtain ⟨r, ho, q⟩ := h HI C Q σ F H st (fun x s' F' H' c e st' => hq x s' _ F' H' c e (st'.val rfl)) hc
  exact ⟨_, fun i => pe_cmpR (ho i) (rdE_ok i) (rdE_ok i) hm, q⟩
theorem xt_cmp {a b : Expr} {op : CmpOp} {pos : Pos} {W : (Bool → S → Prop) → Prop} (h : XC M O Γ s op a b W) (hm : behindInMarks op b = false := by first | exact nomark _ | rfl) : XT M O Γ s (.Compare a [op] [b] pos) W := by
  intro HI C Q σ F H st hq hc
  obtain ⟨r, ho, q⟩ := h HI C (fun x H' => ∃ k, x = .bl k ∧ Q k H') σ F H st (fun x s' F' H' c e st' => ⟨x, rfl, hq x s' F' H' c e st'⟩) hc
  exact ⟨_, fun i => pt_cmpR (ho i) (rdE_ok i) (rdE_ok i) hm, q⟩

/-! ### names, constants -/
theorem xe_var {i : Nat} {x : Str} {pos : Pos} {a : α} (hΓ : Γ[i]? = some (some (fz ra a))) (hN : N[i]? = some x := by rfl) (hv : Vis sc x := by first | exact Or.inl rfl | exact Or.inr (Or.inl rfl) | exact Or.inr (Or.inr rfl))
    (hd : (x == ("__debug__" : Str)) = false := by decide) (hcd : (x == ("__classdict__" : Str)) = false := by decide) : XE M O Γ s (.Name x pos) (fz ra) (fun k => k a s) := by
  intro HI C Q σ F H st hq hc
  obtain ⟨v, e, r⟩ := st.slot hΓ
  exact ⟨tVar i, fun j => pe_var (by rw [M.nn]; exact hN) (by rw [M.scp]; exact hv) hd hcd, v, e, hq a s v F H hc (Same.refl _) (st.val r)⟩
theorem xe_int {i : Int} {j pos} : XE M O Γ s (.Constant (.int i) j pos) (fz pI) (fun k => k i s) := by
  intro HI C Q σ F H st hq hc
  exact ⟨_, fun j => pe_int, hq i s _ F H hc (Same.refl _) (st.val rfl)⟩
theorem xe_bl {i : Bool} {j pos} : XE M O Γ s (.Constant (.bool i) j pos) (fz pB) (fun k => k i s) := by
  intro HI C Q σ F H st hq hc
  exact ⟨_, fun j => pe_bl, hq i s _ F H hc (Same.refl _) (st.val rfl)⟩
theorem xe_non {j pos} : XE M O Γ s (.Constant .none j pos) (fz pN) (fun k => k () s) := by
  intro HI C Q σ F H st hq hc
  exact ⟨_, fun j => pe_non, hq () s _ F H hc (Same.refl _) (st.val rfl)⟩
theorem xe_str {x : Str} {j pos} (l : Text) (e : x.cps = l.toArray := by decide +kernel) (ok : okT l := by decide) : XE M O Γ s (.Constant (.str x) j pos) (fz pT) (fun k => k l s) := by
  intro HI C Q σ F H st hq hc
  exact ⟨_, fun j => pe_str, hq l s _ F H hc (Same.refl _) (st.val ⟨show V.str x = .str ⟨l.toArray⟩ by rw [← e], ok⟩)⟩
/-- None where something may be -/
theorem xe_none {e : Expr} {W : (Unit → S → Prop) → Prop} (h : XE M O Γ s e (fz pN) W) : XE M O Γ s e (fz (pO ra)) (fun k => W fun _ s' => k none s') := by
  intro HI C Q σ F H st hq hc
  refine h HI _ Q σ F H st (fun x s' v F' H' c e sv => ?_) hc
  obtain ⟨r, st'⟩ := sv.fz
  exact hq none s' v F' H' c e (st'.val r)
theorem xe_some {e : Expr} {W : (α → S → Prop) → Prop} (h : XE M O Γ s e (fz ra) W) (hn : ∀ x F, ¬ ra.r x .non F) : XE M O Γ s e (fz (pO ra)) (fun k => W fun x s' => k (some x) s') := by
  intro HI C Q σ F H st hq hc
  refine h HI _ Q σ F H st (fun x s' v F' H' c e sv => ?_) hc
  obtain ⟨r, st'⟩ := sv.fz
  exact hq (some x) s' v F' H' c e (st'.val ⟨fun z => hn x F' (by rw [← z]; exact r), r⟩)

/-! ### tests -/
theorem xt_val {e : Expr} {W : (Bool → S → Prop) → Prop} (h : XE M O Γ s e (fz pB) W) (he : ∀ i whole, isTrue e (M.X i).env whole = (do let v ← whole; standAt e.pos; holding [v] (truthy v)) := by intro _ _; rfl) : XT M O Γ s e W := by
  intro HI C Q σ F H st hq hc
  refine ⟨_, fun i => pt_val (rdE_ok i) (he i), h HI C _ σ F H st (fun x s' v F' H' c e sv => ?_) hc⟩
  obtain ⟨r, st'⟩ := sv.fz
  exact ⟨x, r, hq x s' F' H' c e st'⟩
theorem xt_not {e : Expr} {pos : Pos} {W : (Bool → S → Prop) → Prop} (h : XT M O Γ s e W) : XT M O Γ s (.UnaryOp .Not e pos) (fun k => W fun b s' => k (!b) s') := by
  intro HI C Q σ F H st hq hc
  exact ⟨_, fun i => pt_not (rdT_ok i), h HI _ _ σ F H st (fun x s' F' H' c e st' => hq (!x) s' F' H' c e st') hc⟩
theorem xt_w {e : Expr} {W : (Bool → S → Prop) → Prop} (h : XW M O Γ s e W) : XT M O Γ s e W := by
  intro HI C Q σ F H st hq hc
  obtain ⟨t, h1, h2⟩ := h HI C Q σ F H st hq hc
  exact ⟨t, fun i => (h1 i).pt, h2⟩
theorem xw_and1 {a : Expr} {pos : Pos} {W : (Bool → S → Prop) → Prop} (h : XT M O Γ s a W) : XW M O Γ s (.BoolOp .And [a] pos) W := by
  intro HI C Q σ F H st hq hc
  exact ⟨_, fun i => pw_and1 (rdT_ok i), h HI C Q σ F H st hq hc⟩
theorem xw_or1 {a : Expr} {pos : Pos} {W : (Bool → S → Prop) → Prop} (h : XT M O Γ s a W) : XW M O Γ s (.BoolOp .Or [a] pos) W := by
  intro HI C Q σ F H st hq hc
  exact ⟨_, fun i => pw_or1 (rdT_ok i), h HI C Q σ F H st hq hc⟩
theorem xw_and {a b : Expr} {rest : List Expr} {pos : Pos} {wa : (Bool → S → Prop) → Prop} {wb : S → (Bool → S → Prop) → Prop} (ha : XT M O Γ s a wa) (hb : ∀ s', XW M O Γ s' (.BoolOp .And (b :: rest) pos) (wb s')) :
    XW M O Γ s (.BoolOp .And (a :: b :: rest) pos) (fun k => wa fun x s1 => if x = true then wb s1 k else k false s1) := by
  intro HI C Q σ F H st hq hc
  refine ⟨_, fun i => pw_and (rdT_ok i) (rdW_ok i), ha HI _ _ σ F H st (fun x s1 F1 H1 c e st1 => ?_) hc⟩
  cases x with
  | true => exact (iteT (hb s1 HI C Q σ F1 H1 st1 (fun y s2 F2 H2 c2 e2 st2 => hq y s2 F2 H2 c2 (e.trans e2) st2) (by simpa using c)) : ite _ _ _)
  | false => exact (iteF (hq false s1 F1 H1 (by simpa using c) e st1) : ite _ _ _)
theorem xw_or {a b : Expr} {rest : List Expr} {pos : Pos} {wa : (Bool → S → Prop) → Prop} {wb : S → (Bool → S → Prop) → Prop} (ha : XT M O Γ s a wa) (hb : ∀ s', XW M O Γ s' (.BoolOp .Or (b :: rest) pos) (wb s')) :
    XW M O Γ s (.BoolOp .Or (a :: b :: rest) pos) (fun k => wa fun x s1 => if x = true then k true s1 else wb s1 k) := by
  intro HI C Q σ F H st hq hc
  refine ⟨_, fun i => pw_or (rdT_ok i) (rdW_ok i), ha HI _ _ σ F H st (fun x s1 F1 H1 c e st1 => ?_) hc⟩
  cases x with
  | true => exact (iteT (hq true s1 F1 H1 (by simpa using c) e st1) : ite _ _ _)
  | false => exact (iteF (hb s1 HI C Q σ F1 H1 st1 (fun y s2 F2 H2 c2 e2 st2 => hq y s2 F2 H2 c2 (e.trans e2) st2) (by simpa using c)) : ite _ _ _)
/-- .. as values -/
theorem xe_one {op} {a : Expr} {pos : Pos} {W : (Bool → S → Prop) → Prop} (h : XE M O Γ s a (fz pB) W) : XE M O Γ s (.BoolOp op [a] pos) (fz pB) W := by
  intro HI C Q σ F H st hq hc
  exact ⟨_, fun i => pe_one (rdE_ok i), h HI C Q σ F H st hq hc⟩
theorem xe_and {a b : Expr} {rest : List Expr} {pos : Pos} {wa : (Bool → S → Prop) → Prop} {wb : S → (Bool → S → Prop) → Prop} (ha : XE M O Γ s a (fz pB) wa) (hb : ∀ s', XE M O Γ s' (.BoolOp .And (b :: rest) pos) (fz pB) (wb s')) :
    XE M O Γ s (.BoolOp .And (a :: b :: rest) pos) (fz pB) (fun k => wa fun x s1 => if x = true then wb s1 k else k false s1) := by
  intro HI C Q σ F H st hq hc
  refine ⟨_, fun i => pe_and (rdE_ok i) (rdE_ok i), ha HI _ _ σ F H st (fun x s1 v F1 H1 c e sv1 => ?_) hc⟩
  obtain ⟨r, st1⟩ := sv1.fz
  refine ⟨x, r, ?_⟩
  cases x with
  | true => exact (iteT (hb s1 HI C Q σ F1 H1 st1 (fun y s2 v F2 H2 c2 e2 st2 => hq y s2 v F2 H2 c2 (e.trans e2) st2) (by simpa using c)) : ite _ _ _)
  | false => exact (iteF (hq false s1 _ F1 H1 (by simpa using c) e (st1.val rfl)) : ite _ _ _)
theorem xe_or {a b : Expr} {rest : List Expr} {pos : Pos} {wa : (Bool → S → Prop) → Prop} {wb : S → (Bool → S → Prop) → Prop} (ha : XE M O Γ s a (fz pB) wa) (hb : ∀ s', XE M O Γ s' (.BoolOp .Or (b :: rest) pos) (fz pB) (wb s')) :
    XE M O Γ s (.BoolOp .Or (a :: b :: rest) pos) (fz pB) (fun k => wa fun x s1 => if x = true then k true s1 else wb s1 k) := by
  intro HI C Q σ F H st hq hc
  refine ⟨_, fun i => pe_or (rdE_ok i) (rdE_ok i), ha HI _ _ σ F H st (fun x s1 v F1 H1 c e sv1 => ?_) hc⟩
  obtain ⟨r, st1⟩ := sv1.fz
  refine ⟨x, r, ?_⟩
  cases x with
  | true => exact (iteT (hq true s1 _ F1 H1 (by simpa using c) e (st1.val rfl)) : ite _ _ _)
  | false => exact (iteF (hb s1 HI C Q σ F1 H1 st1 (fun y s2 v F2 H2 c2 e2 st2 => hq y s2 v F2 H2 c2 (e.trans e2) st2) (by simpa using c)) : ite _ _ _)
theorem xe_not {e : Expr} {pos : Pos} {W : (Bool → S → Prop) → Prop} (h : XE M O Γ s e (fz pB) W) : XE M O Γ s (.UnaryOp .Not e pos) (fz pB) (fun k => W fun b s' => k (!b) s') := by
  intro HI C Q σ F H st hq hc
  refine ⟨_, fun i => pe_not (rdE_ok i), h HI _ _ σ F H st (fun x s' v F' H' c e sv => ?_) hc⟩
  obtain ⟨r, st'⟩ := sv.fz
  exact ⟨x, r, hq (!x) s' _ F' H' c e (st'.val rfl)⟩
theorem xe_if {c a b : Expr} {pos : Pos} {wc : (Bool → S → Prop) → Prop} {wa wb : S → (ρ → S → Prop) → Prop} (hc : XT M O Γ s c wc) (ha : ∀ s', XE M O Γ s' a A (wa s')) (hb : ∀ s', XE M O Γ s' b A (wb s')) :
    XE M O Γ s (.IfExp c a b pos) A (fun k => wc fun x s1 => if x = true then wa s1 k else wb s1 k) := by
  intro HI C Q σ F H st hq hw
  refine ⟨_, fun i => pe_ifExp (rdT_ok i) (rdE_ok i) (rdE_ok i), hc HI _ _ σ F H st (fun x s1 F1 H1 c e st1 => ?_) hw⟩
  cases x with
  | true => exact (iteT (ha s1 HI C Q σ F1 H1 st1 (fun y s2 v F2 H2 c2 e2 sv => hq y s2 v F2 H2 c2 (e.trans e2) sv) (by simpa using c)) : ite _ _ _)
  | false => exact (iteF (hb s1 HI C Q σ F1 H1 st1 (fun y s2 v F2 H2 c2 e2 sv => hq y s2 v F2 H2 c2 (e.trans e2) sv) (by simpa using c)) : ite _ _ _)
/-- an owned list is frozen -/
theorem xe_fr {e : Expr} {W : (List α → S → Prop) → Prop} (h : XE M O Γ s e (ol ra) W) : XE M O Γ s e (fz (pL K ra)) W := by
  intro HI C Q σ F H st hq hc
  refine h HI _ Q σ F H st (fun x s' v F' H' c e sv => ?_) hc
  obtain ⟨hv, h1, h2, ⟨a, vs, ev, eh, al⟩, b, cc, d⟩ := sv
  subst ev eh
  have dn := d.freeze
  have e2 : Same F' (upd F' a (.lst vs)) := same_upd (d.own _ List.mem_cons_self).2.1
  refine hq x s' _ _ H' c (e.trans e2) ⟨[], h1, h2, ⟨rfl, a, vs, rfl, .inl (.inl upd_same), al.imp fun _ _ q => ra.mono e2 q⟩, b.mono e2, (O s').mono e2 cc, dn⟩
end
end Sm

set_option Elab.async false
set_option linter.all false
set_option maxRecDepth 100000
set_option maxHeartbeats 4000000
/-! zip and enumerate over texts, lists, tuples, in any mix. -/
namespace Sm
open PySem PySem.Spec PyProof.Rows L2

/-- what is drawn from: a text, a list, a tuple -/
inductive Kd | txt (x : Str) (t : Tok) | lst (a : Addr) | tup (a : Addr)
def Kd.val : Kd → Value | .txt x t => .str x t | .lst a => .ref a | .tup a => .ref a
def Kd.obj : Kd → Obj
  | .txt x t => { cls := .type (strIterType x), data := .fields #[.str x t, .int 0 0] }
  | .lst a => { cls := .type "list_iterator", data := .fields #[.ref a, .int 0 0] }
  | .tup a => { cls := .type "tuple_iterator", data := .fields #[.ref a, .int 0 0] }
def Kd.tn (it : Addr) (i : Nat) (h : Heap) : Kd → Prop
  | .txt x t => h.IsStrIter it (strIterType x) x t i
  | .lst a => h.IsListIter it a i ∧ a ≠ it
  | .tup a => h.IsTupleIter it a i ∧ a ≠ it
def Kd.its (K : PySem.W.Frag) (H : Hp) (xs : List V) : Kd → Prop
  | .txt x _ => xs = x.cps.toList.map fun c => V.str ⟨#[c]⟩
  | .lst a => SqL K H a xs
  | .tup a => SqT K H a xs
def Kd.fp (it : Addr) : Kd → List Addr
  | .txt _ _ => [it]
  | .lst a => [it, a]
  | .tup a => [it, a]
theorem Kd.it_mem (it : Addr) (kd : Kd) : it ∈ kd.fp it := by cases kd <;> simp [Kd.fp]
theorem Kd.fp_old {it b : Addr} {kd : Kd} (h : b ∈ kd.fp it) : b = it ∨ kd.val = .ref b := by
  cases kd with
  | txt x t => left; simpa [Kd.fp] using h
  | lst a =>
    have h : b = it ∨ b = a := by simpa [Kd.fp] using h
    rcases h with h | h
    · exact .inl h
    · right; subst h; rfl
  | tup a =>
    have h : b = it ∨ b = a := by simpa [Kd.fp] using h
    rcases h with h | h
    · exact .inl h
    · right; subst h; rfl
theorem Kd.live {it : Addr} {i : Nat} {h : Heap} {kd : Kd} (t : kd.tn it i h) : ∃ o, h.get? it = some o ∧ ∀ v, o.data ≠ .cell v := by
  cases kd with
  | txt x t' => obtain ⟨o, e, _, d⟩ := t; exact ⟨o, e, fun v q => by rw [d] at q; cases q⟩
  | lst a => obtain ⟨⟨o, e, _, d⟩, _⟩ := t; exact ⟨o, e, fun v q => by rw [d] at q; cases q⟩
  | tup a => obtain ⟨⟨o, e, _, d⟩, _⟩ := t; exact ⟨o, e, fun v q => by rw [d] at q; cases q⟩
theorem Kd.keep {it : Addr} {i : Nat} {h h' : Heap} {kd : Kd} (t : kd.tn it i h) (k : ∀ o, h.get? it = some o → h'.get? it = some o) : kd.tn it i h' := by
  cases kd with
  | txt x t' => obtain ⟨o, e, r⟩ := t; exact ⟨o, k o e, r⟩
  | lst a => obtain ⟨⟨o, e, r⟩, n⟩ := t; exact ⟨⟨o, k o e, r⟩, n⟩
  | tup a => obtain ⟨⟨o, e, r⟩, n⟩ := t; exact ⟨⟨o, k o e, r⟩, n⟩
section
variable {X : Cx} {pins : List (Addr × Obj)} {σ : L2.St} {H : Hp} {s : Shared}
theorem Kd.inj (I : Inv X pins σ H s) {kd : Kd} {xs ys : List V} (a : kd.its X.K H xs) (b : kd.its X.K H ys) : xs = ys := by
  cases kd with
  | txt x t => exact Eq.trans a (Eq.symm b)
  | lst p => exact I.list_inj a b
  | tup p => exact I.tuple_inj a b
theorem Kd.draws (I : Inv X pins σ H s) {kd : Kd} {xs : List V} (q : kd.its X.K H xs) {P : Program} {w : World} {A : Around} (hh : A.handled = none) (it : Addr) {i : Nat} (tn : kd.tn it i s.heap) :
    ∃ (n : Nat) (Pt : Nat → Value → Prop) (St : Nat → Heap → Prop), Draws P w A it (kd.fp it) n Pt St ∧ n = xs.length ∧ (∀ i v, Pt i v → ∃ x, xs[i]? = some x ∧ RelV x v) ∧ St i s.heap ∧ (∀ i h, St i h → kd.tn it i h) := by
  cases kd with
  | txt x t =>
    refine ⟨_, _, _, Draws.text hh it x t, ?_, fun i v ⟨c, u, hc, ev⟩ => ?_, tn, fun i h st => st⟩
    · have q : xs = _ := q
      rw [q]; simp
    · have q : xs = _ := q
      refine ⟨.str ⟨#[c]⟩, ?_, u, ev⟩
      rw [q]; simp [hc]
  | lst a =>
    obtain ⟨its, rv, p, hz⟩ := I.list q
    refine ⟨_, _, _, Draws.list hh it a tn.2 its.toArray, ?_, fun i v hv => ?_, ⟨tn.1, p.isList⟩, fun i h st => ⟨st.1, tn.2⟩⟩
    · simp [rv.length]
    · have hv : its[i]? = some v := by simpa using hv
      have hl : i < xs.length := by rw [rv.length]; exact (List.getElem?_eq_some_iff.mp hv).1
      obtain ⟨u, hu, r⟩ := rv.get (List.getElem?_eq_getElem hl)
      rw [hv] at hu; cases hu
      exact ⟨_, List.getElem?_eq_getElem hl, r⟩
  | tup a =>
    obtain ⟨its, rv, p, hz⟩ := I.tuple q
    refine ⟨_, _, _, Draws.tuple hh it a tn.2 its.toArray, ?_, fun i v hv => ?_, ⟨tn.1, p⟩, fun i h st => ⟨st.1, tn.2⟩⟩
    · simp [rv.length]
    · have hv : its[i]? = some v := by simpa using hv
      have hl : i < xs.length := by rw [rv.length]; exact (List.getElem?_eq_some_iff.mp hv).1
      obtain ⟨u, hu, r⟩ := rv.get (List.getElem?_eq_getElem hl)
      rw [hv] at hu; cases hu
      exact ⟨_, List.getElem?_eq_getElem hl, r⟩
theorem Kd.begins (I : Inv X pins σ H s) {kd : Kd} {xs : List V} (q : kd.its X.K H xs) : ∃ Hk : Heap → Prop, Begins kd.val kd.obj Hk ∧ Hk s.heap := by
  cases kd with
  | txt x t => exact ⟨_, begins_text x t, trivial⟩
  | lst a => obtain ⟨its, rv, p, hz⟩ := I.list q; exact ⟨_, begins_list a its.toArray, p.isList⟩
  | tup a => obtain ⟨its, rv, p, hz⟩ := I.tuple q; exact ⟨_, begins_tuple a its.toArray, p⟩
theorem Kd.lt (I : Inv X pins σ H s) {kd : Kd} {xs : List V} (q : kd.its X.K H xs) {a : Addr} (e : kd.val = .ref a) : a < s.heap.objs.size := by
  cases kd with
  | txt x t => cases e
  | lst b => obtain ⟨its, rv, p, hz⟩ := I.list q; cases e; exact p.lt
  | tup b => obtain ⟨its, rv, p, hz⟩ := I.tuple q; cases e; exact p.lt
theorem Kd.first {kd : Kd} {it : Addr} {h : Heap} (g : h.get? it = some kd.obj) (hlt : ∀ a, kd.val = .ref a → a ≠ it) : kd.tn it 0 h := by
  cases kd with
  | txt x t => exact ⟨_, g, rfl, rfl⟩
  | lst a => exact ⟨⟨_, g, rfl, rfl⟩, hlt a rfl⟩
  | tup a => exact ⟨⟨_, g, rfl, rfl⟩, hlt a rfl⟩
end

/-! ### zip -/
def JZ (K : PySem.W.Frag) (k1 k2 : Kd) : It :=
  ⟨fun i H => ∃ (xs ys : List V) (x y : V), k1.its K H xs ∧ k2.its K H ys ∧ xs[i]? = some x ∧ ys[i]? = some y,
    fun i H v H' => ∃ T x y, v = .ref T ∧ H T = none ∧ H' = upd H T (.tup [x, y]) ∧ (∀ xs, k1.its K H xs → xs[i]? = some x) ∧ ∀ ys, k2.its K H ys → ys[i]? = some y,
    fun i H => ∃ xs ys : List V, k1.its K H xs ∧ k2.its K H ys ∧ i = min xs.length ys.length⟩
theorem turn_z {P : Program} {w : World} {K : PySem.W.Frag} {elts : List Expr} {kk : Nat} {tpos : Pos} {z TI TO i1 i2 : Addr} (k1 k2 : Kd) (D : ZipSep2 z TI TO i1 i2 (k1.fp i1) (k2.fp i2)) :
    Turn P w K (.Tuple elts kk tpos) (JZ K k1 k2) [z, TI, TO, i1, i2] z (fun i h => IsZip h z TI TO .none ∧ IsTupOf2 h TI (.ref i1) (.ref i2) ∧ (∃ a1 a2, IsTupOf2 h TO a1 a2) ∧ k1.tn i1 i h ∧ k2.tn i2 i h) where
  mem := by simp
  obj := fun i h st c hc => by
    obtain ⟨hz, hTI, ⟨x, y, hTO⟩, h1, h2⟩ := st
    have e' : c = z ∨ c = TI ∨ c = TO ∨ c = i1 ∨ c = i2 := by simpa using hc
    rcases e' with q | q | q | q | q
    · rw [q]; exact ⟨_, hz, fun v q => nomatch q⟩
    · rw [q]; exact ⟨_, hTI, fun v q => nomatch q⟩
    · rw [q]; exact ⟨_, hTO, fun v q => nomatch q⟩
    · rw [q]; exact (Kd.live (kd := k1) h1)
    · rw [q]; exact (Kd.live (kd := k2) h2)
  keep := fun i h h' st k => by
    obtain ⟨hz, hTI, ⟨x, y, hTO⟩, h1, h2⟩ := st
    exact ⟨k z (by simp) _ hz, k TI (by simp) _ hTI, ⟨x, y, k TO (by simp) _ hTO⟩, Kd.keep (kd := k1) h1 (k i1 (by simp)), Kd.keep (kd := k2) h2 (k i2 (by simp))⟩
  item := by
    intro X hP hw hK hc i pins s σ H E I hf st hg
    subst hP hw hK
    obtain ⟨hz, hTI, hTO, h1, h2⟩ := st
    obtain ⟨xs, ys, x, y, hqx, hqy, hx, hy⟩ := hg
    obtain ⟨n1, P1, St1, D1, e1, p1, q1, r1⟩ := Kd.draws I hqx (P := X.prog) (w := X.w) (A := X.A.in1) (I.ok.hd hc) i1 h1
    obtain ⟨n2, P2, St2, D2, e2, p2, q2, r2⟩ := Kd.draws I hqy (P := X.prog) (w := X.w) (A := X.A.in1) (I.ok.hd hc) i2 h2
    have hi1 : i < xs.length := (List.getElem?_eq_some_iff.mp hx).1
    have hi2 : i < ys.length := (List.getElem?_eq_some_iff.mp hy).1
    refine wpAny_mono ((GoesN.zip2 (A := X.A) (elts := elts) (x1 := kk) (pos := tpos) D D1 D2).goes i s _ E (by omega) ⟨hz, hTI, hTO, q1, q2⟩ fun v h' tk hY hst hk htk => ?_) (fun r s1 h => h) fun _ _ h => h
    obtain ⟨T, u1, u2, ev, hT, hp1, hp2, hTup⟩ := hY
    subst ev
    obtain ⟨y1, g1, ru1⟩ := p1 i u1 hp1
    obtain ⟨y2, g2, ru2⟩ := p2 i u2 hp2
    rw [hx] at g1; cases g1
    rw [hy] at g2; cases g2
    have new : ObjOk X.prog X.w (upd H T (.tup [x, y])) h' T (.tup [x, y]) := ⟨by show 2 ≤ sizeLine; decide, [u1, u2], .cons ru1 (.cons ru2 .nil), hTup⟩
    have I1 : Inv X pins σ (upd H T (.tup [x, y])) { s with heap := h', toks := tk } :=
      I.turnedNew (ch := [z, TI, TO, i1, i2]) (fun c o hb q => hk c o (fun z' => hb (by simp at z' ⊢; rcases z' with z' | z' | z' | z' <;> simp [z'])) q) hf hT new
    refine ⟨.ref T, _, I1, rfl, ⟨T, x, y, rfl, I.hok.fresh hT, rfl, fun l hl => by rw [Kd.inj I hl hqx]; exact hx, fun l hl => by rw [Kd.inj I hl hqy]; exact hy⟩,
      ⟨hst.1, hst.2.1, hst.2.2.1, r1 _ _ hst.2.2.2.1, r2 _ _ hst.2.2.2.2⟩, fun c hcm => ?_⟩
    have hlt : c < s.heap.objs.size := by
      have e' : c = z ∨ c = TI ∨ c = TO ∨ c = i1 ∨ c = i2 := by simpa using hcm
      obtain ⟨a1, a2, hTO⟩ := hTO
      rcases e' with q | q | q | q | q
      · rw [q]; exact Heap.lt_size hz
      · rw [q]; exact Heap.lt_size hTI
      · rw [q]; exact Heap.lt_size hTO
      · rw [q]; obtain ⟨_, e1, _⟩ := (Kd.live (kd := k1) h1); exact Heap.lt_size e1
      · rw [q]; obtain ⟨_, e2, _⟩ := (Kd.live (kd := k2) h2); exact Heap.lt_size e2
    rw [upd_ne (Nat.ne_of_lt (Nat.lt_of_lt_of_le hlt hT))]
    exact (hf c hcm).1
  done := by
    intro X hP hw hK hc i pins s σ H E I hf st hg
    subst hP hw hK
    obtain ⟨hz, hTI, hTO, h1, h2⟩ := st
    obtain ⟨xs, ys, hqx, hqy, hend⟩ := hg
    obtain ⟨n1, P1, St1, D1, e1, p1, q1, r1⟩ := Kd.draws I hqx (P := X.prog) (w := X.w) (A := X.A.in1) (I.ok.hd hc) i1 h1
    obtain ⟨n2, P2, St2, D2, e2, p2, q2, r2⟩ := Kd.draws I hqy (P := X.prog) (w := X.w) (A := X.A.in1) (I.ok.hd hc) i2 h2
    have en : i = min n1 n2 := by rw [e1, e2]; exact hend
    subst en
    refine (GoesN.zip2 (A := X.A) (elts := elts) (x1 := kk) (pos := tpos) D D1 D2).stops s _ E ⟨hz, hTI, hTO, q1, q2⟩ fun h' tk hk htk => ?_
    exact I.turnedL (ch := [z, TI, TO, i1, i2]) (fun c o hb q => hk c o (fun z' => hb (by simp at z' ⊢; rcases z' with z' | z' | z' | z' <;> simp [z'])) q) hf
  self := fun A i s Q E st h => wpAny_pyIter_zip st.1 h
/-- the values that come to zip, enumerate -/
def KdV (K : PySem.W.Frag) (H : Hp) (v : V) (xs : List V) (R : Kd → Prop) : Prop :=
  (∃ x, v = .str x ∧ xs = (x.cps.toList.map fun c => V.str ⟨#[c]⟩) ∧ ∀ t, R (.txt x t)) ∨ (∃ a, v = .ref a ∧ SqL K H a xs ∧ R (.lst a)) ∨ ∃ a, v = .ref a ∧ SqT K H a xs ∧ R (.tup a)
theorem KdV.of {K : PySem.W.Frag} {H : Hp} {v : V} {u : Value} {xs : List V} {R : Kd → Prop} (h : KdV K H v xs R) (r : RelV v u) : ∃ kd : Kd, kd.val = u ∧ kd.its K H xs ∧ R kd := by
  rcases h with ⟨x, e, ex, q⟩ | ⟨a, e, hs, q⟩ | ⟨a, e, hs, q⟩
  · subst e; obtain ⟨t, rfl⟩ := r; exact ⟨.txt x t, rfl, ex, q t⟩
  · subst e; cases r; exact ⟨.lst a, rfl, hs, q⟩
  · subst e; cases r; exact ⟨.tup a, rfl, hs, q⟩
def iZ (K : PySem.W.Frag) (ta : TA) : TI := fun σ H R => ta σ H fun vs H1 => ∃ v1 v2 xs ys, vs = [v1, v2] ∧ KdV K H1 v1 xs fun k1 => KdV K H1 v2 ys fun k2 => R (JZ K k1 k2) H1
theorem pi_z {X : Cx} {e e2 : Expr} {ta : TA} {p pos tpos : Pos} {elts : List Expr} {kk : Nat} (hg : Gl X "zip") (hm : X.mg "zip" = none) (ha : PA X [e, e2] ta)
    (hs : starEach [e, e2] X.env = (false, eval e X.env) :: starEach [e2] X.env := by rfl) (hpl : (backTo pos (starEach [e2] X.env)).any (·.1) = false := by rfl) :
    PI X (.Tuple elts kk tpos) (.Call (.Name "zip" p) [e, e2] [] pos) (iZ X.K ta) := by
  refine ⟨fun pins s σ H R I h => ?_⟩
  refine Call_ (ld_blt I hg hm PyProof.Rows.boot_zip (PyProof.Rows.callWith_type1 (thn (ha.run pos pins s σ H _ I h) fun us s1 ⟨vs, H1, I1, r1, q1⟩ => ?_) hs hpl))
  obtain ⟨v1, v2, xs, ys, ex, q⟩ := q1
  subst ex
  obtain ⟨u1, u2, eu, ru1, ru2⟩ := vals2 r1
  subst eu
  obtain ⟨k1, ek1, hqx, q⟩ := q.of ru1
  obtain ⟨k2, ek2, hqy, q⟩ := q.of ru2
  subst ek1 ek2
  obtain ⟨Hk1, B1, b1⟩ := Kd.begins I1 hqx
  obtain ⟨Hk2, B2, b2⟩ := Kd.begins I1 hqy
  refine zip_begins2 B1 B2 b1 b2 fun h' hz hTI hTO h1 h2 hsz hk => wpAny_pyIter_zip hz ?_
  have I2 : Inv X pins σ H1 { s1 with heap := h' } := I1.kept (t' := s1.toks) hk
  have f1 : ∀ b ∈ k1.fp s1.heap.objs.size, b ≤ s1.heap.objs.size := fun b hb => by
    rcases Kd.fp_old hb with z | z
    · rw [z]; exact Nat.le_refl _
    · exact Nat.le_of_lt (Kd.lt I1 hqx z)
  have f2 : ∀ b ∈ k2.fp (s1.heap.objs.size + 1), b < s1.heap.objs.size ∨ b = s1.heap.objs.size + 1 := fun b hb => by
    rcases Kd.fp_old hb with z | z
    · exact .inr z
    · exact .inl (Kd.lt I1 hqy z)
  have nn : ∀ (a b : Nat), (a : Nat) ≠ b → (show Addr from a) ≠ b := fun a b h => h
  have S : ZipSep2 (s1.heap.objs.size + 4) (s1.heap.objs.size + 2) (s1.heap.objs.size + 3) s1.heap.objs.size (s1.heap.objs.size + 1) (k1.fp s1.heap.objs.size) (k2.fp (s1.heap.objs.size + 1)) := by
    generalize s1.heap.objs.size = n at f1 f2
    refine ⟨nn _ _ (by omega), nn _ _ (by omega), nn _ _ (by omega), nn _ _ (by omega), Kd.it_mem _ _, fun hb => ?_, fun hb => ?_, nn _ _ (by omega), Kd.it_mem _ _, fun hb => ?_, fun hb => ?_, fun hb => ?_, fun hb => ?_⟩
    · have q : (n + 4 : Nat) ≤ n := f1 _ hb
      omega
    · have q : (n + 3 : Nat) ≤ n := f1 _ hb
      omega
    · have q : (n + 4 : Nat) < n ∨ (n + 4 : Nat) = n + 1 := f2 _ hb
      omega
    · have q : (n + 3 : Nat) < n ∨ (n + 3 : Nat) = n + 1 := f2 _ hb
      omega
    · have q : (n : Nat) < n ∨ (n : Nat) = n + 1 := f2 _ hb
      omega
    · have q : (n + 1 : Nat) ≤ n := f1 _ hb
      omega
  refine ⟨s1.heap.objs.size + 4, [s1.heap.objs.size + 4, s1.heap.objs.size + 2, s1.heap.objs.size + 3, s1.heap.objs.size, s1.heap.objs.size + 1], _, _, H1, rfl, I2, turn_z k1 k2 S, ⟨hz, hTI, ⟨_, _, hTO⟩, Kd.first h1 fun a e => Nat.ne_of_lt (Kd.lt I1 hqx e), Kd.first h2 fun a e => Nat.ne_of_lt (Nat.lt_succ_of_lt (Kd.lt I1 hqy e))⟩, fun c hcm => ?_, q⟩
  have e' : c = s1.heap.objs.size + 4 ∨ c = s1.heap.objs.size + 2 ∨ c = s1.heap.objs.size + 3 ∨ c = s1.heap.objs.size ∨ c = s1.heap.objs.size + 1 := by simpa using hcm
  have hle : s1.heap.objs.size ≤ c := by
    rcases e' with z | z | z | z | z
    · rw [z]; exact Nat.le_add_right _ _
    · rw [z]; exact Nat.le_add_right _ _
    · rw [z]; exact Nat.le_add_right _ _
    · rw [z]; exact Nat.le_refl _
    · rw [z]; exact Nat.le_add_right _ _
  exact I1.fpOk hle (I1.hok.fresh hle)

/-! ### enumerate -/
def JE (K : PySem.W.Frag) (k1 : Kd) : It :=
  ⟨fun i H => ∃ (xs : List V) (x : V), k1.its K H xs ∧ xs[i]? = some x,
    fun i H v H' => ∃ T x, v = .ref T ∧ H T = none ∧ H' = upd H T (.tup [.int (i : Nat), x]) ∧ ∀ xs, k1.its K H xs → xs[i]? = some x,
    fun i H => ∃ xs : List V, k1.its K H xs ∧ i = xs.length⟩
theorem turn_e {P : Program} {w : World} {K : PySem.W.Frag} {elts : List Expr} {kk : Nat} {tpos : Pos} {e it : Addr} (k1 : Kd) (hei : e ≠ it) (hef : e ∉ k1.fp it) :
    Turn P w K (.Tuple elts kk tpos) (JE K k1) [e, it] e (fun i h => (∃ old, IsEnum h e it (0 + ((i : Nat) : Int)) old) ∧ k1.tn it i h) where
  mem := by simp
  obj := fun i h st b hb => by
    obtain ⟨⟨old, he⟩, h1⟩ := st
    have e' : b = e ∨ b = it := by simpa using hb
    rcases e' with z | z
    · rw [z]; exact ⟨_, he, fun v q => nomatch q⟩
    · rw [z]; exact (Kd.live (kd := k1) h1)
  keep := fun i h h' st k => let ⟨⟨old, he⟩, h1⟩ := st; ⟨⟨old, k e (by simp) _ he⟩, Kd.keep (kd := k1) h1 (k it (by simp))⟩
  item := by
    intro X hP hw hK hc i pins s σ H E I hf st hg
    subst hP hw hK
    obtain ⟨hen, h1⟩ := st
    obtain ⟨xs, x, hqx, hx⟩ := hg
    obtain ⟨n1, P1, St1, D1, e1, p1, q1, r1⟩ := Kd.draws I hqx (P := X.prog) (w := X.w) (A := X.A.in1) (I.ok.hd hc) it h1
    have hi1 : i < xs.length := (List.getElem?_eq_some_iff.mp hx).1
    refine wpAny_mono ((GoesN.enumFrom (A := X.A) (elts := elts) (x1 := kk) (pos := tpos) 0 D1 e hei hef (Kd.it_mem _ _)).goes i s _ E (by omega) ⟨hen, q1⟩ fun v h' tk hY hst hk htk => ?_) (fun r s1 h => h) fun _ _ h => h
    obtain ⟨T, t0, u1, ev, hT, hp1, hTup⟩ := hY
    subst ev
    obtain ⟨y1, g1, ru1⟩ := p1 i u1 hp1
    rw [hx] at g1; cases g1
    have new : ObjOk X.prog X.w (upd H T (.tup [.int (i : Nat), x])) h' T (.tup [.int (i : Nat), x]) := ⟨by show 2 ≤ sizeLine; decide, [.int (0 + (i : Int)) t0, u1], .cons ⟨t0, by rw [Int.zero_add]⟩ (.cons ru1 .nil), hTup⟩
    have I1 : Inv X pins σ (upd H T (.tup [.int (i : Nat), x])) { s with heap := h', toks := tk } := I.turnedNew (ch := [e, it]) (fun c o hb q => hk c o hb q) hf hT new
    refine ⟨.ref T, _, I1, rfl, ⟨T, x, rfl, I.hok.fresh hT, rfl, fun l hl => by rw [Kd.inj I hl hqx]; exact hx⟩, ⟨hst.1, r1 _ _ hst.2⟩, fun c hcm => ?_⟩
    have hlt : c < s.heap.objs.size := by
      have e' : c = e ∨ c = it := by simpa using hcm
      obtain ⟨old, he⟩ := hen
      rcases e' with q | q
      · rw [q]; exact Heap.lt_size he
      · rw [q]; obtain ⟨_, e1, _⟩ := (Kd.live (kd := k1) h1); exact Heap.lt_size e1
    rw [upd_ne (Nat.ne_of_lt (Nat.lt_of_lt_of_le hlt hT))]
    exact (hf c hcm).1
  done := by
    intro X hP hw hK hc i pins s σ H E I hf st hg
    subst hP hw hK
    obtain ⟨hen, h1⟩ := st
    obtain ⟨xs, hqx, hend⟩ := hg
    obtain ⟨n1, P1, St1, D1, e1, p1, q1, r1⟩ := Kd.draws I hqx (P := X.prog) (w := X.w) (A := X.A.in1) (I.ok.hd hc) it h1
    have en : i = n1 := by rw [e1]; exact hend
    subst en
    refine (GoesN.enumFrom (A := X.A) (elts := elts) (x1 := kk) (pos := tpos) 0 D1 e hei hef (Kd.it_mem _ _)).stops s _ E ⟨hen, q1⟩ fun h' tk hk htk => ?_
    exact I.turnedL (ch := [e, it]) (fun c o hb q => hk c o hb q) hf
  self := fun A i s Q E st h => let ⟨⟨_, he⟩, _⟩ := st; wpAny_pyIter_enum he h
def iE (K : PySem.W.Frag) (ta : TA) : TI := fun σ H R => ta σ H fun vs H1 => ∃ v1 xs, vs = [v1] ∧ KdV K H1 v1 xs fun k1 => R (JE K k1) H1
set_option maxHeartbeats 1000000 in
theorem meets_enum1 {v : Value} {o : Obj} {H : Heap → Prop} (B : Begins v o H) :
    Meets (Builtin.«enumerate.__new__» ⟨[.type "enumerate", v], []⟩) (fun _ R s => H s.heap ∧
      R (.ok (.ret (.ref (s.heap.push o).objs.size))) { s with heap := (s.heap.push o).push { cls := .type "enumerate", data := .fields #[.none, .bool false, .ref s.heap.objs.size, rawInt 0, .none, .none] } }) :=
  .of_wp fun prog w A R s h => by
    obtain ⟨hp, g, d, tk, os⟩ := s; obtain ⟨h1, h⟩ := h
    have hsub := sub_enumerate
    have q1 : ∀ {A' : Around} {E : Value → Shared → Prop} {Q : Value → Shared → Prop}, Q (.ref hp.objs.size) ⟨hp.push o, g, d, tk, os⟩ → wpAny (model prog w) A' (pyIter v) Q E ⟨hp, g, d, tk, os⟩ :=
      fun q => B.iter prog w _ _ ⟨hp, g, d, tk, os⟩ _ h1 q
    wp_walk using q1
    refine wpAny_stack_any fun st => wpAny_pure ?_
    split
    · rename_i c _ _ _ _ _
      cases (c == Value.type "enumerate")
      · wp_walk using q1
        exact ⟨_, rfl, h⟩
      · wp_walk using q1
        exact ⟨_, rfl, h⟩
    · wp_walk using q1
      exact ⟨_, rfl, h⟩
theorem call_enum1 {prog : Program} {w : World} {A : Around} {E : Value → Shared → Prop} {s : Shared} {v : Value} {o : Obj} {Hk : Heap → Prop} {Q : Value → Shared → Prop} (B : Begins v o Hk) (h1 : Hk s.heap)
    (h : ∀ h', IsEnum h' (s.heap.objs.size + 1) s.heap.objs.size 0 .none → h'.get? s.heap.objs.size = some o → h'.objs.size = s.heap.objs.size + 2 →
      (∀ b o, s.heap.get? b = some o → h'.get? b = some o) → Q (.ref (s.heap.objs.size + 1)) { s with heap := h' }) :
    wpAny (model prog w) A (call (.type "enumerate") [v]) Q E s := by
  refine callType_new F.called_enumerate (by decide) (F.typeCall_enumerate_1 _) (F.newCall_enumerate_1 _) (fun obj => F.args_object_init_2 obj _) F.entry_enumerate_new
    (meets_enum1 B) ⟨h1, ?_⟩
  have hz : (s.heap.push o).objs.size = s.heap.objs.size + 1 := Heap.size_push ..
  show _ ∧ _
  rw [hz]
  have he : IsEnum ((s.heap.push o).push { cls := .type "enumerate", data := .fields #[.none, .bool false, .ref s.heap.objs.size, rawInt 0, .none, .none] }) (s.heap.objs.size + 1) s.heap.objs.size 0 .none := by
    have := Heap.get?_push_size (s.heap.push o) (o := { cls := .type "enumerate", data := .fields #[.none, .bool false, .ref s.heap.objs.size, rawInt 0, .none, .none] }) rfl
    rw [hz] at this; exact this
  refine ⟨⟨_, he, rfl⟩, h _ he (Heap.get?_push_of_some _ (Heap.get?_push_size _ B.free)) (by rw [Heap.size_push, hz]) fun b o x => Heap.get?_push_of_some _ (Heap.get?_push_of_some _ x)⟩
theorem pi_e {X : Cx} {e : Expr} {ta : TA} {p pos tpos : Pos} {elts : List Expr} {kk : Nat} (hg : Gl X "enumerate") (hm : X.mg "enumerate" = none) (ha : PA X [e] ta) (hs : starEach [e] X.env = [(false, eval e X.env)] := by rfl) :
    PI X (.Tuple elts kk tpos) (.Call (.Name "enumerate" p) [e] [] pos) (iE X.K ta) := by
  refine ⟨fun pins s σ H R I h => ?_⟩
  refine Call_ (ld_blt I hg hm boot_enumerate (PyProof.Rows.callWith_type1 (thn (ha.run pos pins s σ H _ I h) fun us s1 ⟨vs, H1, I1, r1, q1⟩ => ?_) hs rfl))
  obtain ⟨v1, xs, ex, q⟩ := q1
  subst ex
  obtain ⟨u1, eu, ru1⟩ := vals1 r1
  subst eu
  obtain ⟨k1, ek1, hqx, q⟩ := q.of ru1
  subst ek1
  obtain ⟨Hk1, B1, b1⟩ := Kd.begins I1 hqx
  refine call_enum1 B1 b1 fun h' he hit hsz hk => wpAny_pyIter_enum he ?_
  have I2 : Inv X pins σ H1 { s1 with heap := h' } := I1.kept (t' := s1.toks) hk
  have nf : s1.heap.objs.size + 1 ∉ k1.fp s1.heap.objs.size := fun hb => by
    rcases Kd.fp_old hb with z | z
    · exact absurd z (Nat.succ_ne_self _)
    · exact absurd (Kd.lt I1 hqx z) (by show ¬ (s1.heap.objs.size + 1 < s1.heap.objs.size); omega)
  refine ⟨s1.heap.objs.size + 1, [s1.heap.objs.size + 1, s1.heap.objs.size], _, _, H1, rfl, I2, turn_e k1 (Nat.succ_ne_self _) nf, ⟨⟨.none, he⟩, Kd.first hit fun a e => Nat.ne_of_lt (Kd.lt I1 hqx e)⟩, fun b hb => ?_, q⟩
  have e' : b = s1.heap.objs.size + 1 ∨ b = s1.heap.objs.size := by simpa using hb
  have hle : s1.heap.objs.size ≤ b := by
    rcases e' with z | z
    · rw [z]; exact Nat.le_add_right _ _
    · rw [z]; exact Nat.le_refl _
  exact I1.fpOk hle (I1.hok.fresh hle)
end Sm

set_option Elab.async false
set_option linter.all false
set_option maxRecDepth 100000
set_option maxHeartbeats 4000000
namespace Sm
open PySem PySem.Spec PyProof.Rows L2
section
variable {P : Program} {w : World} {K : PySem.W.Frag} {mg : Str → Option Value} {base : Heap} {N : List Str} {sc : Scope} {fn : Str → Bool} {k : Nat} {M : Fm P w K mg base N sc fn k}
variable {S : Type} {O : S → Res} {Γ : Asrt} {s : S} {α β γ ρ : Type} {ra : RP α} {rb : RP β} {A : ρ → VA}

/-! ### numbers and texts -/
theorem o_i0 {g : Int → Int → Int} : Op2 (rI0 fun i j => .int (g i j)) pI pI (fz pI) (fun x y k => k (g x y)) :=
  fun O HI Γ s σ F H x y u v C Q st rx ry hq hc => ⟨x, y, rx, ry, hq _ _ F H hc (Same.refl _) (st.val rfl)⟩
theorem o_iC {Cn : Int → Int → Prop} {g : Int → Int → Int} : Op2 (rI Cn fun i j => .int (g i j)) pI pI (fz pI) (fun x y k => Cn x y ∧ k (g x y)) :=
  fun O HI Γ s σ F H x y u v C Q st rx ry hq hc => ⟨x, y, rx, ry, hc.1, hq _ _ F H hc.2 (Same.refl _) (st.val rfl)⟩
theorem o_b0 {g : Int → Int → Bool} : Op2 (rI0 fun i j => .bl (g i j)) pI pI (fz pB) (fun x y k => k (g x y)) :=
  fun O HI Γ s σ F H x y u v C Q st rx ry hq hc => ⟨x, y, rx, ry, hq _ _ F H hc (Same.refl _) (st.val rfl)⟩
theorem o_u {g : Int → Int} : Op1 (rU fun i => .int (g i)) pI (fz pI) (fun x k => k (g x)) :=
  fun O HI Γ s σ F H x u C Q st rx hq hc => ⟨x, rx, hq _ _ F H hc (Same.refl _) (st.val rfl)⟩
theorem o_addT : Op2 (fun x y H Q => ∃ i j, x = .str i ∧ y = .str j ∧ i.length + j.length ≤ sizeLine ∧ Q (.str (i ++ j)) H) pT pT (fz pT) (fun x y k => x.length + y.length ≤ sizeLine ∧ k (x ++ y)) :=
  fun O HI Γ s σ F H x y u v C Q st rx ry hq hc => ⟨⟨x.toArray⟩, ⟨y.toArray⟩, rx.1, ry.1, hc.1, hq _ _ F H hc.2 (Same.refl _) (st.val ⟨by
    show V.str _ = V.str _
    congr 1
    exact TL.ext_tl (by rw [TL.tl_append]), rx.2.append ry.2⟩)⟩
section
variable {a b : Expr} {pos : Pos} {wa : (Int → S → Prop) → Prop} {wb : S → (Int → S → Prop) → Prop} (ha : XE M O Γ s a (fz pI) wa) (hb : ∀ s', XE M O Γ s' b (fz pI) (wb s'))
include ha hb
theorem xe_add : XE M O Γ s (.BinOp a .Add b pos) (fz pI) (fun k => wa fun x s1 => wb s1 fun y s2 => k (x + y) s2) := xe_bin (fun _ => op_add) o_i0 ha hb
theorem xe_sub : XE M O Γ s (.BinOp a .Sub b pos) (fz pI) (fun k => wa fun x s1 => wb s1 fun y s2 => k (x - y) s2) := xe_bin (fun _ => op_sub) o_i0 ha hb
theorem xe_mul : XE M O Γ s (.BinOp a .Mult b pos) (fz pI) (fun k => wa fun x s1 => wb s1 fun y s2 => CMul x y ∧ k (x * y) s2) := xe_bin (fun _ => op_mul) o_iC ha hb
theorem xe_fdiv : XE M O Γ s (.BinOp a .FloorDiv b pos) (fz pI) (fun k => wa fun x s1 => wb s1 fun y s2 => CDiv x y ∧ k (x / y) s2) := xe_bin (fun _ => op_fdiv) o_iC ha hb
theorem xe_mod : XE M O Γ s (.BinOp a .Mod b pos) (fz pI) (fun k => wa fun x s1 => wb s1 fun y s2 => 0 < y ∧ k (x % y) s2) := xe_bin (fun _ => op_mod) o_iC ha hb
theorem xe_pow : XE M O Γ s (.BinOp a .Pow b pos) (fz pI) (fun k => wa fun x s1 => wb s1 fun y s2 => CPow x y ∧ k (x ^ y.toNat) s2) := xe_bin (fun _ => op_pow) o_iC ha hb
theorem xe_shl : XE M O Γ s (.BinOp a .LShift b pos) (fz pI) (fun k => wa fun x s1 => wb s1 fun y s2 => CPow x y ∧ k (x * 2 ^ y.toNat) s2) := xe_bin (fun _ => op_shl) o_iC ha hb
theorem xe_shr : XE M O Γ s (.BinOp a .RShift b pos) (fz pI) (fun k => wa fun x s1 => wb s1 fun y s2 => 0 ≤ y ∧ k (x / 2 ^ y.toNat) s2) := xe_bin (fun _ => op_shr) o_iC ha hb
theorem xe_band : XE M O Γ s (.BinOp a .BitAnd b pos) (fz pI) (fun k => wa fun x s1 => wb s1 fun y s2 => k (Builtin.bitAnd x y) s2) := xe_bin (fun _ => op_and) o_i0 ha hb
theorem xe_bor : XE M O Γ s (.BinOp a .BitOr b pos) (fz pI) (fun k => wa fun x s1 => wb s1 fun y s2 => k (Builtin.bitOr x y) s2) := xe_bin (fun _ => op_or) o_i0 ha hb
theorem xe_bxor : XE M O Γ s (.BinOp a .BitXor b pos) (fz pI) (fun k => wa fun x s1 => wb s1 fun y s2 => k (Builtin.bitXor x y) s2) := xe_bin (fun _ => op_xor) o_i0 ha hb
theorem xc_lt : XC M O Γ s .Lt a b (fun k => wa fun x s1 => wb s1 fun y s2 => k (decide (x < y)) s2) := xc_op (fun _ => op_lt) o_b0 ha hb
theorem xc_le : XC M O Γ s .LtE a b (fun k => wa fun x s1 => wb s1 fun y s2 => k (decide (x ≤ y)) s2) := xc_op (fun _ => op_le) o_b0 ha hb
theorem xc_gt : XC M O Γ s .Gt a b (fun k => wa fun x s1 => wb s1 fun y s2 => k (decide (y < x)) s2) := xc_op (fun _ => op_gt) o_b0 ha hb
theorem xc_ge : XC M O Γ s .GtE a b (fun k => wa fun x s1 => wb s1 fun y s2 => k (decide (y ≤ x)) s2) := xc_op (fun _ => op_ge) o_b0 ha hb
end
theorem xe_neg {a : Expr} {pos : Pos} {wa : (Int → S → Prop) → Prop} (ha : XE M O Γ s a (fz pI) wa) : XE M O Γ s (.UnaryOp .USub a pos) (fz pI) (fun k => wa fun x s1 => k (-x) s1) := xe_un (fun _ => un_neg) o_u ha
theorem xe_addT {a b : Expr} {pos : Pos} {wa : (Text → S → Prop) → Prop} {wb : S → (Text → S → Prop) → Prop} (ha : XE M O Γ s a (fz pT) wa) (hb : ∀ s', XE M O Γ s' b (fz pT) (wb s')) :
    XE M O Γ s (.BinOp a .Add b pos) (fz pT) (fun k => wa fun x s1 => wb s1 fun y s2 => x.length + y.length ≤ sizeLine ∧ k (x ++ y) s2) := xe_bin (fun _ => op_add_str) o_addT ha hb

/-! ### == of data -/
/-- things of this kind are data that == tells apart as Lean does -/
structure Dat (K : PySem.W.Frag) {α : Type} [DecidableEq α] (r : RP α) where
  d : α → PyData
  n : Nat
  dp : ∀ {x v F H}, Same F H → r.r x v F → Dp K H v (d x) ∧ (d x).canLay0 = true
  dep : ∀ x, (d x).depth ≤ n
  eq : ∀ x y, PyData.eqv (d x) (d y) = decide (x = y)
theorem Dat.sh [DecidableEq α] (D : Dat K ra) (hn : D.n ≤ 64) {x : α} (h : (D.d x).canLay0 = true) : SeqAt.shaped (D.d x) = true := by
  unfold SeqAt.shaped
  rw [h, Bool.true_and]
  exact decide_eq_true (Nat.le_trans (D.dep x) hn)
theorem o_eqD [DecidableEq α] (D : Dat K ra) (hn : D.n ≤ 64) : Op2 (rEqD K) ra ra (fz pB) (fun x y k => k (eqB x y)) :=
  fun O HI Γ s σ F H x y u v C Q st rx ry hq hc => ⟨D.d x, D.d y, (D.dp st.ok rx).1, (D.dp st.ok ry).1, D.sh hn (D.dp st.ok rx).2, D.sh hn (D.dp st.ok ry).2, by rw [D.eq]; exact hq _ _ F H hc (Same.refl _) (st.val rfl)⟩
theorem o_neD [DecidableEq α] (D : Dat K ra) (hn : D.n ≤ 64) : Op2 (rNeD K) ra ra (fz pB) (fun x y k => k (!eqB x y)) :=
  fun O HI Γ s σ F H x y u v C Q st rx ry hq hc => ⟨D.d x, D.d y, (D.dp st.ok rx).1, (D.dp st.ok ry).1, D.sh hn (D.dp st.ok rx).2, D.sh hn (D.dp st.ok ry).2, by rw [D.eq]; exact hq _ _ F H hc (Same.refl _) (st.val rfl)⟩
section
variable {a b : Expr} {wa : (α → S → Prop) → Prop} {wb : S → (α → S → Prop) → Prop}
theorem xc_eq [DecidableEq α] (D : Dat K ra) (ha : XE M O Γ s a (fz ra) wa) (hb : ∀ s', XE M O Γ s' b (fz ra) (wb s')) (hn : D.n ≤ 64 := by exact Nat.le_of_ble_eq_true rfl) : XC M O Γ s .Eq a b (fun k => wa fun x s1 => wb s1 fun y s2 => k (eqB x y) s2) :=
  xc_op (fun i => by have h := op_eqD (X := M.X i) (M.room i).units; rw [M.kf i] at h; exact h) (o_eqD D hn) ha hb
theorem xc_ne [DecidableEq α] (D : Dat K ra) (ha : XE M O Γ s a (fz ra) wa) (hb : ∀ s', XE M O Γ s' b (fz ra) (wb s')) (hn : D.n ≤ 64 := by exact Nat.le_of_ble_eq_true rfl) : XC M O Γ s .NotEq a b (fun k => wa fun x s1 => wb s1 fun y s2 => k (!eqB x y) s2) :=
  xc_op (fun i => by have h := op_neD (X := M.X i) (M.room i).units; rw [M.kf i] at h; exact h) (o_neD D hn) ha hb
end
def dI : Dat K pI := ⟨.int, 0, fun _ r => by cases r; exact ⟨.int _, by simp [PyData.canLay0]⟩, fun _ => by simp [PyData.depth], fun x y => by simp only [PyData.eqv]; exact Bool.beq_eq_decide_eq _ _⟩
def dB : Dat K pB := ⟨.bool, 0, fun _ r => by cases r; exact ⟨.bl _, by simp [PyData.canLay0]⟩, fun _ => by simp [PyData.depth], fun x y => by simp only [PyData.eqv]; exact Bool.beq_eq_decide_eq _ _⟩
def dN : Dat K pN := ⟨fun _ => .none, 0, fun _ r => by cases r; exact ⟨.non, by simp [PyData.canLay0]⟩, fun _ => by simp [PyData.depth], fun x y => by simp [PyData.eqv]⟩
def dT : Dat K pT := ⟨fun x => .str ⟨x.toArray⟩, 0, fun _ r => by
    obtain ⟨e, o⟩ := r
    subst e
    refine ⟨.str _, ?_⟩
    simp only [PyData.canLay0, PyData.strOk]
    simpa using o, fun _ => by simp [PyData.depth], fun x y => by
  simp only [PyData.eqv]
  rw [Bool.eq_iff_iff]
  simp⟩
theorem all_dp {d : α → PyData} {F H : Hp} (h : ∀ {x v}, ra.r x v F → Dp K H v (d x) ∧ (d x).canLay0 = true) : ∀ {xs : List α} {vs : List V}, All2 (fun x v => ra.r x v F) xs vs → DpAll K H vs (xs.map d) ∧ PyData.canLayAll0 (xs.map d) = true
  | [], [], _ => ⟨.nil, rfl⟩
  | x :: xs, v :: vs, ⟨a, b⟩ => by
    obtain ⟨h1, h2⟩ := h a
    obtain ⟨h3, h4⟩ := all_dp h b
    refine ⟨.cons h1 h3, ?_⟩
    rw [List.map_cons]
    simp [PyData.canLayAll0, h2, h4]
theorem depAll {d : α → PyData} {n : Nat} (h : ∀ x, (d x).depth ≤ n) : ∀ xs : List α, PyData.depthAll (xs.map d) ≤ n
  | [] => by simp [PyData.depthAll]
  | x :: xs => by
    rw [List.map_cons]
    simp only [PyData.depthAll]
    exact Nat.max_le.mpr ⟨h x, depAll h xs⟩
theorem eqAll [DecidableEq α] {d : α → PyData} (h : ∀ x y, PyData.eqv (d x) (d y) = decide (x = y)) : ∀ xs ys : List α, PyData.eqvAll (xs.map d) (ys.map d) = decide (xs = ys)
  | [], [] => by simp [PyData.eqvAll]
  | x :: xs, [] => by simp [PyData.eqvAll]
  | [], y :: ys => by simp [PyData.eqvAll]
  | x :: xs, y :: ys => by
    simp only [List.map_cons, PyData.eqvAll]
    rw [h, eqAll h xs ys, Bool.eq_iff_iff]
    simp
def dL [DecidableEq α] (D : Dat K ra) : Dat K (pL K ra) := ⟨fun xs => .list (xs.map D.d), D.n + 1, fun {x v F H} e ⟨a, vs, h1, h2, h3⟩ => by
    obtain ⟨q1, q2⟩ := all_dp (d := D.d) (H := H) (fun q => D.dp e q) h3
    subst h1
    exact ⟨.lst (e.seq h2) q1, by simp only [PyData.canLay0]; exact q2⟩,
  fun x => by simp only [PyData.depth]; exact Nat.add_le_add_right (depAll D.dep x) 1, fun x y => by simp only [PyData.eqv]; exact eqAll D.eq x y⟩
def dU [DecidableEq α] (D : Dat K ra) : Dat K (pU K ra) := ⟨fun xs => .tuple (xs.map D.d), D.n + 1, fun {x v F H} e ⟨a, vs, h1, h2, h3⟩ => by
    obtain ⟨q1, q2⟩ := all_dp (d := D.d) (H := H) (fun q => D.dp e q) h3
    subst h1
    exact ⟨.tup (SqT.mono e h2) q1, by simp only [PyData.canLay0]; exact q2⟩,
  fun x => by simp only [PyData.depth]; exact Nat.add_le_add_right (depAll D.dep x) 1, fun x y => by simp only [PyData.eqv]; exact eqAll D.eq x y⟩
def dP [DecidableEq α] [DecidableEq β] (D : Dat K ra) (E : Dat K rb) : Dat K (pP K ra rb) := ⟨fun x => .tuple [D.d x.1, E.d x.2], max D.n E.n + 1, fun {x v F H} e ⟨a, u1, u2, h1, h2, h3, h4⟩ => by
    obtain ⟨q1, q2⟩ := D.dp e h3
    obtain ⟨q3, q4⟩ := E.dp e h4
    subst h1
    exact ⟨.tup (SqT.mono e h2) (.cons q1 (.cons q3 .nil)), by simp [PyData.canLay0, PyData.canLayAll0, q2, q4]⟩,
  fun x => by have h1 := D.dep x.1; have h2 := E.dep x.2; simp only [PyData.depth, PyData.depthAll]; omega, fun x y => by
    obtain ⟨x1, x2⟩ := x
    obtain ⟨y1, y2⟩ := y
    simp only [PyData.eqv, PyData.eqvAll]
    rw [D.eq, E.eq, Bool.eq_iff_iff]
    simp⟩
def dP3 {γ : Type} {rc : RP γ} [DecidableEq α] [DecidableEq β] [DecidableEq γ] (D : Dat K ra) (E : Dat K rb) (G : Dat K rc) : Dat K (pP3 K ra rb rc) := ⟨fun x => .tuple [D.d x.1, E.d x.2.1, G.d x.2.2], max (max D.n E.n) G.n + 1, fun {x v F H} e ⟨a, u1, u2, u3, h1, h2, h3, h4, h5⟩ => by
    obtain ⟨q1, q2⟩ := D.dp e h3
    obtain ⟨q3, q4⟩ := E.dp e h4
    obtain ⟨q5, q6⟩ := G.dp e h5
    subst h1
    exact ⟨.tup (SqT.mono e h2) (.cons q1 (.cons q3 (.cons q5 .nil))), by simp [PyData.canLay0, PyData.canLayAll0, q2, q4, q6]⟩,
  fun x => by have h1 := D.dep x.1; have h2 := E.dep x.2.1; have h3 := G.dep x.2.2; simp only [PyData.depth, PyData.depthAll]; omega, fun x y => by
    obtain ⟨x1, x2, x3⟩ := x
    obtain ⟨y1, y2, y3⟩ := y
    simp only [PyData.eqv, PyData.eqvAll]
    rw [D.eq, E.eq, G.eq, Bool.eq_iff_iff]
    simp⟩
def dO [DecidableEq α] (D : Dat K ra) (nn : ∀ x, PyData.eqv .none (D.d x) = false ∧ PyData.eqv (D.d x) .none = false := by intro x; exact ⟨rfl, rfl⟩) : Dat K (pO ra) := ⟨fun x => match x with | none => .none | some y => D.d y, D.n, fun {x v F H} e h => by
    cases x with
    | none =>
      have h : v = .non := h
      subst h
      exact ⟨.non, by simp [PyData.canLay0]⟩
    | some y => exact D.dp e h.2,
  fun x => by cases x with | none => simp [PyData.depth] | some y => exact D.dep y, fun x y => by
    cases x with
    | none =>
      cases y with
      | none => simp [PyData.eqv]
      | some z => simp [(nn z).1]
    | some u =>
      cases y with
      | none => simp [(nn u).2]
      | some z => simp only [D.eq]; rw [Bool.eq_iff_iff]; simp⟩
end
end Sm

set_option Elab.async false
set_option linter.all false
set_option maxRecDepth 100000
set_option maxHeartbeats 4000000
namespace Sm
open PySem PySem.Spec PyProof.Rows L2
/-- no star: an argument as it stands -/
def GlN (sc : Scope) (x : Str) : Prop := sc.names.lookup x = some .globalImplicit
def NoStar (e : Expr) : Prop := ∀ (es : List Expr) (env : Env), starEach (e :: es) env = (false, eval e env) :: starEach es env
section
variable {P : Program} {w : World} {K : PySem.W.Frag} {mg : Str → Option Value} {base : Heap} {N : List Str} {sc : Scope} {fn : Str → Bool} {k : Nat} {M : Fm P w K mg base N sc fn k}
variable {S : Type} {O : S → Res} {Γ : Asrt} {s : S} {α β γ ρ : Type} {ra : RP α} {rb : RP β} {rc : RP γ} {A : ρ → VA}

theorem Gl.of {x : Str} (h : GlN sc x) (i) : Gl (M.X i) x := by
  show (M.X i).env.scope.names.lookup x = _
  rw [M.scp]; exact h
theorem Fm.none (M : Fm P w K mg base N sc fn k) {x : Str} (h : mg x = none) (i) : (M.X i).mg x = none := by rw [M.mgl]; exact h

/-! ### lists of items; displays -/
def XL (M : Fm P w K mg base N sc fn k) (O : S → Res) (Γ : Asrt) (s : S) (es : List Expr) (r : RP α) (W : (List α → S → Prop) → Prop) : Prop :=
  ∀ (HI : Hp) (C : List α → S → Prop) (Q : List V → Hp → Prop) (σ : L2.St) (F H : Hp), Stt O HI Γ s σ F H →
    (∀ x s' vs F' H', C x s' → Same F F' → All2 (fun x v => r.r x v F') x vs → x.length = es.length → Stt O HI Γ s' σ F' H' → Q vs H') → W C → rdA M es σ H Q
theorem xl_nil : XL M O Γ s [] ra (fun k => k [] s) := by
  intro HI C Q σ F H st hq hc
  exact ⟨_, fun i => pa_nil, hq [] s [] F H hc (Same.refl _) trivial rfl st⟩
theorem xl_cons {e : Expr} {es : List Expr} {wa : (α → S → Prop) → Prop} {wr : S → (List α → S → Prop) → Prop} (ha : XE M O Γ s e (fz ra) wa) (hr : ∀ s', XL M O Γ s' es ra (wr s')) (hs : NoStar e := by intro _ _; rfl) :
    XL M O Γ s (e :: es) ra (fun k => wa fun x s1 => wr s1 fun xs s2 => k (x :: xs) s2) := by
  intro HI C Q σ F H st hq hc
  refine ⟨_, fun i => pa_cons (rdE_ok i) (rdA_ok i) (hs _ _), ha HI _ _ σ F H st (fun x s1 u F1 H1 c1 e1 sv1 => ?_) hc⟩
  obtain ⟨rx, st1⟩ := sv1.fz
  refine hr s1 HI _ _ σ F1 H1 st1 (fun xs s2 vs F2 H2 c2 e2 al hl st2 => ?_) c1
  exact hq (x :: xs) s2 (u :: vs) F2 H2 c2 (e1.trans e2) ⟨ra.mono e2 rx, al⟩ (congrArg (· + 1) hl) st2
theorem xe_lst {es : List Expr} {pos : Pos} {W : (List α → S → Prop) → Prop} (h : XL M O Γ s es ra W) (hz : es.length ≤ sizeLine := by decide) : XE M O Γ s (.List es pos) (ol ra) W := by
  intro HI C Q σ F H st hq hc
  refine ⟨_, fun i => pe_lst (rdA_ok i), h HI _ _ σ F H st (fun x s1 vs F1 H1 c1 e1 al hl st1 => ?_) hc⟩
  refine ⟨by rw [← al.length, hl]; exact hz, fun p hp => hq x s1 _ F1 _ c1 e1 (st1.newV hp ⟨p, vs, rfl, rfl, al⟩)⟩
theorem xe_tupU {es : List Expr} {x1 : Nat} {pos : Pos} {W : (List α → S → Prop) → Prop} (h : XL M O Γ s es ra W) (hz : es.length ≤ sizeLine := by decide) : XE M O Γ s (.Tuple es x1 pos) (fz (pU K ra)) W := by
  intro HI C Q σ F H st hq hc
  refine ⟨_, fun i => pe_tup (rdA_ok i), h HI _ _ σ F H st (fun x s1 vs F1 H1 c1 e1 al hl st1 => ?_) hc⟩
  refine ⟨by rw [← al.length, hl]; exact hz, fun p hp => ?_⟩
  obtain ⟨e2, st2⟩ := st1.newF (o := .tup vs) hp
  exact hq x s1 _ _ _ c1 (e1.trans e2) (st2.val ⟨p, vs, rfl, .inl (.inl upd_same), al.imp fun _ _ q => ra.mono e2 q⟩)
theorem xe_tup2 {a b : Expr} {x1 : Nat} {pos : Pos} {wa : (α → S → Prop) → Prop} {wb : S → (β → S → Prop) → Prop} (ha : XE M O Γ s a (fz ra) wa) (hb : ∀ s', XE M O Γ s' b (fz rb) (wb s')) (na : NoStar a := by intro _ _; rfl) (nb : NoStar b := by intro _ _; rfl) :
    XE M O Γ s (.Tuple [a, b] x1 pos) (fz (pP K ra rb)) (fun k => wa fun x s1 => wb s1 fun y s2 => k (x, y) s2) := by
  intro HI C Q σ F H st hq hc
  refine ⟨_, fun i => pe_tup (pa_cons (rdE_ok i) (pa_cons (rdE_ok i) pa_nil (nb _ _)) (na _ _)), ?_⟩
  refine two ha hb st (R := fun u v H2 => _) (fun x y s' u v F' H' c e rx ry st' => ?_) hc
  refine ⟨by show 2 ≤ sizeLine; decide, fun p hp => ?_⟩
  obtain ⟨e2, st2⟩ := st'.newF (o := .tup [u, v]) hp
  exact hq (x, y) s' _ _ _ c (e.trans e2) (st2.val ⟨p, u, v, rfl, .inl (.inl upd_same), ra.mono e2 rx, rb.mono e2 ry⟩)
theorem xe_tup3 {a b c : Expr} {x1 : Nat} {pos : Pos} {wa : (α → S → Prop) → Prop} {wb : S → (β → S → Prop) → Prop} {wc : S → (γ → S → Prop) → Prop} (ha : XE M O Γ s a (fz ra) wa) (hb : ∀ s', XE M O Γ s' b (fz rb) (wb s')) (hc : ∀ s', XE M O Γ s' c (fz rc) (wc s'))
    (na : NoStar a := by intro _ _; rfl) (nb : NoStar b := by intro _ _; rfl) (nc : NoStar c := by intro _ _; rfl) :
    XE M O Γ s (.Tuple [a, b, c] x1 pos) (fz (pP3 K ra rb rc)) (fun k => wa fun x s1 => wb s1 fun y s2 => wc s2 fun z s3 => k (x, y, z) s3) := by
  intro HI C Q σ F H st hq hw
  refine ⟨_, fun i => pe_tup (pa_cons (rdE_ok i) (pa_cons (rdE_ok i) (pa_cons (rdE_ok i) pa_nil (nc _ _)) (nb _ _)) (na _ _)), ?_⟩
  refine two ha hb st (R := fun u v H2 => _) (fun x y s' u v F' H' c e rx ry st' => ?_) hw
  refine hc s' HI _ _ σ F' H' st' (fun z s3 t F3 H3 c3 e3 sv3 => ?_) c
  obtain ⟨rz, st3⟩ := sv3.fz
  refine ⟨by show 3 ≤ sizeLine; decide, fun p hp => ?_⟩
  obtain ⟨e2, st4⟩ := st3.newF (o := .tup [u, v, t]) hp
  have e4 := e3.trans e2
  exact hq (x, y, z) s3 _ _ _ c3 (e.trans e4) (st4.val ⟨p, u, v, t, rfl, .inl (.inl upd_same), ra.mono e4 rx, rb.mono e4 ry, rc.mono e2 rz⟩)

/-! ### built-ins by name -/
theorem xe_cb1 {x : Str} {id : String} {p pos : Pos} {e : Expr} {r : List V → Hp → VK → Prop} {Wo : α → (ρ → Prop) → Prop} {wa : (α → S → Prop) → Prop} (hv : bootBuiltins x = some (.builtin id)) (hc : ∀ i, CallR (M.X i) (.builtin id) r) (hr : Op1 (fun u => r [u]) ra A Wo)
    (hm : mg x = none) (hg : GlN sc x) (ha : XE M O Γ s e (fz ra) wa) (hn : x ≠ "__name__" := by decide) (hdb : (x == ("__debug__" : Str)) = false := by decide) (hs : NoStar e := by intro _ _; rfl) :
    XE M O Γ s (.Call (.Name x p) [e] [] pos) A (fun k => wa fun a s1 => Wo a fun z => k z s1) := by
  intro HI C Q σ F H st hq hw
  refine ⟨_, fun i => pe_callB (hc i) (Gl.of hg i) (M.none hm i) hv (pa_cons (rdE_ok i) pa_nil (hs _ _)) hn hdb (hs _ _) rfl, ha HI _ _ σ F H st (fun a s1 u F1 H1 c1 e1 sv1 => ?_) hw⟩
  obtain ⟨rx, st1⟩ := sv1.fz
  exact hr O HI Γ s1 σ F1 H1 a u _ Q st1 rx (fun z v' F2 H2 c2 e2 sv => hq z s1 v' F2 H2 c2 (e1.trans e2) sv) c1
theorem xe_cb2 {x : Str} {id : String} {p pos : Pos} {e e2 : Expr} {r : List V → Hp → VK → Prop} {Wo : α → β → (ρ → Prop) → Prop} {wa : (α → S → Prop) → Prop} {wb : S → (β → S → Prop) → Prop} (hv : bootBuiltins x = some (.builtin id)) (hc : ∀ i, CallR (M.X i) (.builtin id) r) (hr : Op2 (fun u v => r [u, v]) ra rb A Wo)
    (hm : mg x = none) (hg : GlN sc x) (ha : XE M O Γ s e (fz ra) wa) (hb : ∀ s', XE M O Γ s' e2 (fz rb) (wb s')) (hn : x ≠ "__name__" := by decide) (hdb : (x == ("__debug__" : Str)) = false := by decide) (hs : NoStar e := by intro _ _; rfl) (hs2 : NoStar e2 := by intro _ _; rfl) :
    XE M O Γ s (.Call (.Name x p) [e, e2] [] pos) A (fun k => wa fun a s1 => wb s1 fun b s2 => Wo a b fun z => k z s2) := by
  intro HI C Q σ F H st hq hw
  refine ⟨_, fun i => pe_callB (hc i) (Gl.of hg i) (M.none hm i) hv (pa_cons (rdE_ok i) (pa_cons (rdE_ok i) pa_nil (hs2 _ _)) (hs _ _)) hn hdb (hs _ _) (by rw [hs2 [] (M.X i).env]; rfl), ?_⟩
  refine two ha hb st (R := fun u v H2 => _) (fun x y s' u v F' H' c e rx ry st' => ?_) hw
  exact hr O HI Γ s' σ F' H' x y u v _ Q st' rx ry (fun z v' F2 H2 c2 e2 sv => hq z s' v' F2 H2 c2 (e.trans e2) sv) c
theorem xe_ct1 {x : Str} {T : String} {p pos : Pos} {e : Expr} {r : List V → Hp → VK → Prop} {Wo : α → (ρ → Prop) → Prop} {wa : (α → S → Prop) → Prop} (hv : bootBuiltins x = some (.type T)) (hc : ∀ i, CallR (M.X i) (.type T) r) (hr : Op1 (fun u => r [u]) ra A Wo)
    (hm : mg x = none) (hg : GlN sc x) (ha : XE M O Γ s e (fz ra) wa) (hn : x ≠ "__name__" := by decide) (hdb : (x == ("__debug__" : Str)) = false := by decide) (hs : NoStar e := by intro _ _; rfl) :
    XE M O Γ s (.Call (.Name x p) [e] [] pos) A (fun k => wa fun a s1 => Wo a fun z => k z s1) := by
  intro HI C Q σ F H st hq hw
  refine ⟨_, fun i => pe_callTy (hc i) (Gl.of hg i) (M.none hm i) hv (pa_cons (rdE_ok i) pa_nil (hs _ _)) hn hdb (hs _ _) rfl, ha HI _ _ σ F H st (fun a s1 u F1 H1 c1 e1 sv1 => ?_) hw⟩
  obtain ⟨rx, st1⟩ := sv1.fz
  exact hr O HI Γ s1 σ F1 H1 a u _ Q st1 rx (fun z v' F2 H2 c2 e2 sv => hq z s1 v' F2 H2 c2 (e1.trans e2) sv) c1
theorem b_len : bootBuiltins "len" = some (.builtin "len") := by decide +kernel
theorem b_sum : bootBuiltins "sum" = some (.builtin "sum") := by decide +kernel
theorem b_abs : bootBuiltins "abs" = some (.builtin "abs") := by decide +kernel
theorem b_max : bootBuiltins "max" = some (.builtin "max") := by decide +kernel
theorem b_min : bootBuiltins "min" = some (.builtin "min") := by decide +kernel
theorem b_sorted : bootBuiltins "sorted" = some (.builtin "sorted") := by decide +kernel
theorem b_isinstance : bootBuiltins "isinstance" = some (.builtin "isinstance") := by decide +kernel
theorem b_int : bootBuiltins "int" = some (.type "int") := by decide +kernel
theorem b_str : bootBuiltins "str" = some (.type "str") := by decide +kernel
theorem b_tuple : bootBuiltins "tuple" = some (.type "tuple") := by decide +kernel
theorem b_list : bootBuiltins "list" = some (.type "list") := by decide +kernel
theorem b_bool : bootBuiltins "bool" = some (.type "bool") := by decide +kernel
theorem All2.at {p : α → V → Prop} {xs : List α} {vs : List V} {i : Int} {x : α} (h : All2 p xs vs) (e : atI xs i = some x) : ∃ v, atI vs i = some v ∧ p x v := by
  unfold atI at e ⊢
  rw [← h.length]
  cases q : ixN xs.length i with
  | none => rw [q] at e; cases e
  | some j => rw [q] at e; exact h.get e

/-- len -/
theorem o_lenL : Op1 (fun u => (fun xs H Q => ∃ p ys, xs = [.ref p] ∧ (SqL K H p ys ∨ SqT K H p ys) ∧ Q (.int ys.length) H : List V → Hp → VK → Prop) [u]) (pL K ra) (fz pI) (fun xs k => k (xs.length : Int)) :=
  fun O HI Γ s σ F H x u C Q st ⟨a, vs, h1, h2, h3⟩ hq hc => ⟨a, vs, by rw [h1], .inl (SqL.mono st.ok h2), hq _ _ F H hc (Same.refl _) (st.val (by rw [h3.length]; rfl))⟩
theorem o_lenU : Op1 (fun u => (fun xs H Q => ∃ p ys, xs = [.ref p] ∧ (SqL K H p ys ∨ SqT K H p ys) ∧ Q (.int ys.length) H : List V → Hp → VK → Prop) [u]) (pU K ra) (fz pI) (fun xs k => k (xs.length : Int)) :=
  fun O HI Γ s σ F H x u C Q st ⟨a, vs, h1, h2, h3⟩ hq hc => ⟨a, vs, by rw [h1], .inr (SqT.mono st.ok h2), hq _ _ F H hc (Same.refl _) (st.val (by rw [h3.length]; rfl))⟩
theorem o_lenT : Op1 (fun u => (fun xs H Q => ∃ z, xs = [.str z] ∧ z.length ≤ sizeLine ∧ Q (.int z.length) H : List V → Hp → VK → Prop) [u]) pT (fz pI) (fun x k => x.length ≤ sizeLine ∧ k (x.length : Int)) :=
  fun O HI Γ s σ F H x u C Q st h hq hc => ⟨⟨x.toArray⟩, by rw [h.1], hc.1, hq _ _ F H hc.2 (Same.refl _) (st.val rfl)⟩
theorem o_sum : Op1 (fun u => rSum K [u]) (pL K pI) (fz pI) (fun xs k => k xs.sum) :=
  fun O HI Γ s σ F H x u C Q st ⟨a, vs, h1, h2, h3⟩ hq hc => ⟨a, x, by rw [h1], by rw [← All2.map_eq (f := V.int) h3]; exact SqL.mono st.ok h2, hq _ _ F H hc (Same.refl _) (st.val rfl)⟩
theorem o_intB : Op1 (fun u => (fun xs H Q => (∃ i, xs = [.int i] ∧ Q (.int i) H) ∨ ∃ k, xs = [.bl k] ∧ Q (.int (if k then 1 else 0)) H : List V → Hp → VK → Prop) [u]) pB (fz pI) (fun x k => k (if x then 1 else 0)) :=
  fun O HI Γ s σ F H x u C Q st h hq hc => .inr ⟨x, by rw [show u = .bl x from h], hq _ _ F H hc (Same.refl _) (st.val rfl)⟩
theorem o_intI : Op1 (fun u => (fun xs H Q => (∃ i, xs = [.int i] ∧ Q (.int i) H) ∨ ∃ k, xs = [.bl k] ∧ Q (.int (if k then 1 else 0)) H : List V → Hp → VK → Prop) [u]) pI (fz pI) (fun x k => k x) :=
  fun O HI Γ s σ F H x u C Q st h hq hc => .inl ⟨x, by rw [show u = .int x from h], hq _ _ F H hc (Same.refl _) (st.val rfl)⟩
def strI (i : Int) : Text := (toString i).toList.map Char.toNat
theorem strI_ok (i : Int) : okT (strI i) := fun c hc => by
  obtain ⟨d, _, e⟩ := List.mem_map.mp hc
  subst e
  have h : d.val.toNat < 55296 ∨ (57343 < d.val.toNat ∧ d.val.toNat < 1114112) := d.valid
  show d.val.toNat < 1114112
  omega
theorem o_strI : Op1 (fun u => (fun xs H Q => ∃ i, xs = [.int i] ∧ i.natAbs.log2 < 1920 ∧ Q (.str (toString i)) H : List V → Hp → VK → Prop) [u]) pI (fz pT) (fun x k => x.natAbs.log2 < 1920 ∧ k (strI x)) :=
  fun O HI Γ s σ F H x u C Q st h hq hc => ⟨x, by rw [show u = .int x from h], hc.1, hq _ _ F H hc.2 (Same.refl _) (st.val ⟨congrArg V.str (TL.ext_tl (by rw [TL.tl_ofString]; rfl)), strI_ok x⟩)⟩
theorem o_tupL : Op1 (fun u => (fun xs H Q => ∃ p ys, xs = [.ref p] ∧ ((SqL K H p ys ∧ ∀ l, H l = none → Q (.ref l) (upd H l (.tup ys))) ∨ (SqT K H p ys ∧ Q (.ref p) H)) : List V → Hp → VK → Prop) [u]) (pL K ra) (fz (pU K ra)) (fun xs k => k xs) :=
  fun O HI Γ s σ F H x u C Q st ⟨a, vs, h1, h2, h3⟩ hq hc => ⟨a, vs, by rw [h1], .inl ⟨SqL.mono st.ok h2, fun p hp => by
    obtain ⟨e2, st2⟩ := st.newF (o := .tup vs) hp
    exact hq x _ _ _ hc e2 (st2.val ⟨p, vs, rfl, .inl (.inl upd_same), h3.imp fun _ _ q => ra.mono e2 q⟩)⟩⟩
theorem o_tupU : Op1 (fun u => (fun xs H Q => ∃ p ys, xs = [.ref p] ∧ ((SqL K H p ys ∧ ∀ l, H l = none → Q (.ref l) (upd H l (.tup ys))) ∨ (SqT K H p ys ∧ Q (.ref p) H)) : List V → Hp → VK → Prop) [u]) (pU K ra) (fz (pU K ra)) (fun xs k => k xs) :=
  fun O HI Γ s σ F H x u C Q st ⟨a, vs, h1, h2, h3⟩ hq hc => ⟨a, vs, by rw [h1], .inr ⟨SqT.mono st.ok h2, hq x _ F H hc (Same.refl _) (st.val ⟨a, vs, h1 ▸ rfl, h2, h3⟩)⟩⟩
theorem o_listL : Op1 (fun u => (fun xs H Q => ∃ p ys, xs = [.ref p] ∧ (SqL K H p ys ∨ SqT K H p ys) ∧ ∀ l, H l = none → Q (.ref l) (upd H l (.lst ys)) : List V → Hp → VK → Prop) [u]) (pL K ra) (ol ra) (fun xs k => k xs) :=
  fun O HI Γ s σ F H x u C Q st ⟨a, vs, h1, h2, h3⟩ hq hc => ⟨a, vs, by rw [h1], .inl (SqL.mono st.ok h2), fun p hp => hq x _ F _ hc (Same.refl _) (st.newV hp ⟨p, vs, rfl, rfl, h3⟩)⟩
theorem o_listU : Op1 (fun u => (fun xs H Q => ∃ p ys, xs = [.ref p] ∧ (SqL K H p ys ∨ SqT K H p ys) ∧ ∀ l, H l = none → Q (.ref l) (upd H l (.lst ys)) : List V → Hp → VK → Prop) [u]) (pU K ra) (ol ra) (fun xs k => k xs) :=
  fun O HI Γ s σ F H x u C Q st ⟨a, vs, h1, h2, h3⟩ hq hc => ⟨a, vs, by rw [h1], .inr (SqT.mono st.ok h2), fun p hp => hq x _ F _ hc (Same.refl _) (st.newV hp ⟨p, vs, rfl, rfl, h3⟩)⟩
section
variable {p pos : Pos} {e : Expr} {x : Str}
theorem xe_lenL {wa : (List α → S → Prop) → Prop} (hm : mg "len" = none) (ha : XE M O Γ s e (fz (pL K ra)) wa) (hg : GlN sc "len" := by rfl) (hs : NoStar e := by intro _ _; rfl) :
    XE M O Γ s (.Call (.Name "len" p) [e] [] pos) (fz pI) (fun k => wa fun x s1 => k (x.length : Int) s1) :=
  xe_cb1 b_len (fun i => by have h := call_len_seq (X := M.X i); rw [M.kf i] at h; exact h) o_lenL hm hg ha (by decide) (by decide) hs
theorem xe_lenU {wa : (List α → S → Prop) → Prop} (hm : mg "len" = none) (ha : XE M O Γ s e (fz (pU K ra)) wa) (hg : GlN sc "len" := by rfl) (hs : NoStar e := by intro _ _; rfl) :
    XE M O Γ s (.Call (.Name "len" p) [e] [] pos) (fz pI) (fun k => wa fun x s1 => k (x.length : Int) s1) :=
  xe_cb1 b_len (fun i => by have h := call_len_seq (X := M.X i); rw [M.kf i] at h; exact h) o_lenU hm hg ha (by decide) (by decide) hs
theorem xe_lenT {wa : (Text → S → Prop) → Prop} (hm : mg "len" = none) (ha : XE M O Γ s e (fz pT) wa) (hg : GlN sc "len" := by rfl) (hs : NoStar e := by intro _ _; rfl) :
    XE M O Γ s (.Call (.Name "len" p) [e] [] pos) (fz pI) (fun k => wa fun x s1 => x.length ≤ sizeLine ∧ k (x.length : Int) s1) :=
  xe_cb1 b_len (fun i => call_len_str) o_lenT hm hg ha (by decide) (by decide) hs
theorem xe_sum {wa : (List Int → S → Prop) → Prop} (hm : mg "sum" = none) (ha : XE M O Γ s e (fz (pL K pI)) wa) (hg : GlN sc "sum" := by rfl) (hs : NoStar e := by intro _ _; rfl) :
    XE M O Γ s (.Call (.Name "sum" p) [e] [] pos) (fz pI) (fun k => wa fun x s1 => k x.sum s1) :=
  xe_cb1 b_sum (fun i => by have h := cr_sum (X := M.X i) (M.calm i); rw [M.kf i] at h; exact h) o_sum hm hg ha (by decide) (by decide) hs
theorem xe_intB {wa : (Bool → S → Prop) → Prop} (hm : mg "int" = none) (ha : XE M O Γ s e (fz pB) wa) (hg : GlN sc "int" := by rfl) (hs : NoStar e := by intro _ _; rfl) :
    XE M O Γ s (.Call (.Name "int" p) [e] [] pos) (fz pI) (fun k => wa fun x s1 => k (if x then 1 else 0) s1) :=
  xe_ct1 b_int (fun i => call_int1) o_intB hm hg ha (by decide) (by decide) hs
theorem xe_strI {wa : (Int → S → Prop) → Prop} (hm : mg "str" = none) (ha : XE M O Γ s e (fz pI) wa) (hg : GlN sc "str" := by rfl) (hs : NoStar e := by intro _ _; rfl) :
    XE M O Γ s (.Call (.Name "str" p) [e] [] pos) (fz pT) (fun k => wa fun x s1 => x.natAbs.log2 < 1920 ∧ k (strI x) s1) :=
  xe_ct1 b_str (fun i => call_str_int) o_strI hm hg ha (by decide) (by decide) hs
theorem xe_tupL {wa : (List α → S → Prop) → Prop} (hm : mg "tuple" = none) (ha : XE M O Γ s e (fz (pL K ra)) wa) (hg : GlN sc "tuple" := by rfl) (hs : NoStar e := by intro _ _; rfl) :
    XE M O Γ s (.Call (.Name "tuple" p) [e] [] pos) (fz (pU K ra)) wa :=
  xe_ct1 b_tuple (fun i => by have h := call_tuple_of (X := M.X i); rw [M.kf i] at h; exact h) o_tupL hm hg ha (by decide) (by decide) hs
theorem xe_listL {wa : (List α → S → Prop) → Prop} (hm : mg "list" = none) (ha : XE M O Γ s e (fz (pL K ra)) wa) (hg : GlN sc "list" := by rfl) (hs : NoStar e := by intro _ _; rfl) :
    XE M O Γ s (.Call (.Name "list" p) [e] [] pos) (ol ra) wa :=
  xe_ct1 b_list (fun i => by have h := call_list_of (X := M.X i); rw [M.kf i] at h; exact h) o_listL hm hg ha (by decide) (by decide) hs
theorem xe_listU {wa : (List α → S → Prop) → Prop} (hm : mg "list" = none) (ha : XE M O Γ s e (fz (pU K ra)) wa) (hg : GlN sc "list" := by rfl) (hs : NoStar e := by intro _ _; rfl) :
    XE M O Γ s (.Call (.Name "list" p) [e] [] pos) (ol ra) wa :=
  xe_ct1 b_list (fun i => by have h := call_list_of (X := M.X i); rw [M.kf i] at h; exact h) o_listU hm hg ha (by decide) (by decide) hs
end

/-! ### subscripts -/
theorem xe_ix {a b : Expr} {pos : Pos} {r : R2} {Wo : α → β → (ρ → Prop) → Prop} {wa : (α → S → Prop) → Prop} {wb : S → (β → S → Prop) → Prop} (ho : ∀ i, IxR (M.X i) r) (hr : Op2 r ra rb A Wo) (ha : XE M O Γ s a (fz ra) wa) (hb : ∀ s', XE M O Γ s' b (fz rb) (wb s')) (hs : PlainIx b := by intro _ _; rfl) :
    XE M O Γ s (.Subscript a b pos) A (fun k => wa fun x s1 => wb s1 fun y s2 => Wo x y fun z => k z s2) := by
  intro HI C Q σ F H st hq hc
  refine ⟨_, fun i => pe_ix (ho i) (rdE_ok i) (rdE_ok i) hs, two ha hb st (fun x y s' u v F' H' c e rx ry st' => ?_) hc⟩
  exact hr O HI Γ s' σ F' H' x y u v _ Q st' rx ry (fun z v' F2 H2 c2 e2 sv => hq z s' v' F2 H2 c2 (e.trans e2) sv) c
theorem o_ixL : Op2 (rIxL K) (pL K ra) pI (fz ra) (fun xs i k => ∃ y, atI xs i = some y ∧ k y) :=
  fun O HI Γ s σ F H x y u v C Q st ⟨a, vs, h1, h2, h3⟩ ry hq ⟨z, hz, hc⟩ => by
    obtain ⟨v', hv, rz⟩ := h3.at hz
    exact ⟨a, vs, y, v', h1, ry, SqL.mono st.ok h2, hv, hq z v' F H hc (Same.refl _) (st.val rz)⟩
theorem o_ixU : Op2 (rIxT K) (pU K ra) pI (fz ra) (fun xs i k => ∃ y, atI xs i = some y ∧ k y) :=
  fun O HI Γ s σ F H x y u v C Q st ⟨a, vs, h1, h2, h3⟩ ry hq ⟨z, hz, hc⟩ => by
    obtain ⟨v', hv, rz⟩ := h3.at hz
    exact ⟨a, vs, y, v', h1, ry, SqT.mono st.ok h2, hv, hq z v' F H hc (Same.refl _) (st.val rz)⟩
theorem atI_mem {xs : List α} {i : Int} {y : α} (h : atI xs i = some y) : y ∈ xs := by
  unfold atI at h
  cases q : ixN xs.length i with
  | none => rw [q] at h; cases h
  | some j => rw [q] at h; exact List.mem_of_getElem? h
theorem o_ixT : Op2 rIxS pT pI (fz pT) (fun x i k => x.length ≤ sizeLine ∧ ∃ c, atI x i = some c ∧ k [c]) :=
  fun O HI Γ s σ F H x y u v C Q st rx ry hq ⟨hl, z, hz, hc⟩ => ⟨⟨x.toArray⟩, y, z, rx.1, ry, hl, by simpa using hz, hq [z] _ F H hc (Same.refl _) (st.val ⟨rfl, fun c hc => by
    have e : c = z := by simpa using hc
    subst e; exact rx.2 _ (atI_mem hz)⟩)⟩
section
variable {a b : Expr} {pos : Pos} {wb : S → (Int → S → Prop) → Prop} (hb : ∀ s', XE M O Γ s' b (fz pI) (wb s'))
theorem xe_ixL {wa : (List α → S → Prop) → Prop} (ha : XE M O Γ s a (fz (pL K ra)) wa) (hb : ∀ s', XE M O Γ s' b (fz pI) (wb s')) (hs : PlainIx b := by intro _ _; rfl) :
    XE M O Γ s (.Subscript a b pos) (fz ra) (fun k => wa fun x s1 => wb s1 fun i s2 => ∃ y, atI x i = some y ∧ k y s2) := xe_ix (fun i => by have h := ix_list (X := M.X i); rw [M.kf i] at h; exact h) o_ixL ha hb hs
theorem xe_ixU {wa : (List α → S → Prop) → Prop} (ha : XE M O Γ s a (fz (pU K ra)) wa) (hb : ∀ s', XE M O Γ s' b (fz pI) (wb s')) (hs : PlainIx b := by intro _ _; rfl) :
    XE M O Γ s (.Subscript a b pos) (fz ra) (fun k => wa fun x s1 => wb s1 fun i s2 => ∃ y, atI x i = some y ∧ k y s2) := xe_ix (fun i => by have h := ix_tup (X := M.X i); rw [M.kf i] at h; exact h) o_ixU ha hb hs
theorem xe_ixT {wa : (Text → S → Prop) → Prop} (ha : XE M O Γ s a (fz pT) wa) (hb : ∀ s', XE M O Γ s' b (fz pI) (wb s')) (hs : PlainIx b := by intro _ _; rfl) :
    XE M O Γ s (.Subscript a b pos) (fz pT) (fun k => wa fun x s1 => wb s1 fun i s2 => x.length ≤ sizeLine ∧ ∃ c, atI x i = some c ∧ k [c] s2) := xe_ix (fun i => ix_str) o_ixT ha hb hs
end
end
end Sm

set_option Elab.async false
set_option linter.all false
set_option maxRecDepth 100000
set_option maxHeartbeats 4000000
namespace Sm
open PySem PySem.Spec PyProof.Rows L2
/-! ### a slot taken out and put back -/
theorem Sat.take {F : Hp} : ∀ {Γ : Asrt} {σ : L2.St} {h : HL} (i : Nat), Sat Γ σ F h → ∃ h' h'', h.Perm (h' ++ h'') ∧ Sat (Γ.set i none) (σ.set i none) F h' ∧
    ∀ F' h1, Same F F' → Sat (Γ.set i none) (σ.set i none) F' h1 → ∃ h0, h0.Perm (h1 ++ h'') ∧ Sat Γ σ F' h0
  | none :: Γ, s :: σ, h, 0, q => ⟨h, [], by rw [List.append_nil], q, fun F' h1 e q' => ⟨h1, by rw [List.append_nil], q'⟩⟩
  | some B :: Γ, s :: σ, h, 0, ⟨v, g1, g2, a0, b0, c0, d0⟩ => ⟨g2, g1, by rw [b0]; exact List.perm_append_comm, d0, fun F' h1 e q' => ⟨g1 ++ h1, List.perm_append_comm, v, g1, h1, a0, rfl, B.mono e c0, q'⟩⟩
  | none :: Γ, s :: σ, h, i + 1, q => by
    obtain ⟨h', h'', e1, e2, e3⟩ := Sat.take (Γ := Γ) (σ := σ) (h := h) i q
    exact ⟨h', h'', e1, e2, e3⟩
  | some B :: Γ, s :: σ, h, i + 1, ⟨v, g1, g2, a0, b0, c0, d0⟩ => by
    obtain ⟨h', h'', e1, e2, e3⟩ := Sat.take (Γ := Γ) (σ := σ) (h := g2) i d0
    refine ⟨g1 ++ h', h'', by rw [b0, List.append_assoc]; exact List.Perm.append_left g1 e1, ⟨v, g1, h', a0, rfl, c0, e2⟩, fun F' h1 e q' => ?_⟩
    obtain ⟨v', k1, k2, a1, b1, c1, d1⟩ := q'
    obtain ⟨h0, p0, q0⟩ := e3 F' k2 e d1
    refine ⟨k1 ++ h0, by rw [b1, List.append_assoc]; exact List.Perm.append_left k1 p0, v', k1, h0, a1, rfl, c1, q0⟩
  | [], [], h, i, q => ⟨h, [], by rw [List.append_nil], q, fun F' h1 e q' => ⟨h1, by rw [List.append_nil], q'⟩⟩
theorem Sat.takes {F : Hp} {Γ : Asrt} {σ : L2.St} {h : HL} (q : Sat Γ σ F h) : ∀ vs : List Nat, ∃ h' h'', h.Perm (h' ++ h'') ∧ Sat (wipeA Γ vs) (L2.wipe σ vs) F h' ∧
    ∀ F' h1, Same F F' → Sat (wipeA Γ vs) (L2.wipe σ vs) F' h1 → ∃ h0, h0.Perm (h1 ++ h'') ∧ Sat Γ σ F' h0
  | [] => ⟨h, [], by rw [List.append_nil], q, fun F' h1 e q' => ⟨h1, by rw [List.append_nil], q'⟩⟩
  | v :: vs => by
    obtain ⟨a1, a2, p1, q1, r1⟩ := Sat.takes q vs
    obtain ⟨b1, b2, p2, q2, r2⟩ := Sat.take v q1
    refine ⟨b1, b2 ++ a2, p1.trans (by rw [← List.append_assoc]; exact p2.append_right _), q2, fun F' h1 e q' => ?_⟩
    obtain ⟨c1, p3, q3⟩ := r2 F' h1 e q'
    obtain ⟨c2, p4, q4⟩ := r1 F' c1 e q3
    exact ⟨c2, p4.trans (by rw [← List.append_assoc]; exact p3.append_right _), q4⟩
theorem wipeA_length (Γ : Asrt) : ∀ vs : List Nat, (wipeA Γ vs).length = Γ.length
  | [] => rfl
  | v :: vs => by unfold wipeA; rw [List.length_set, wipeA_length Γ vs]
theorem wipeA_in {Γ : Asrt} {i : Nat} : ∀ {vs : List Nat}, i ∈ vs → i < Γ.length → (wipeA Γ vs)[i]? = some none
  | v :: vs, h, l => by
    unfold wipeA
    by_cases e : v = i
    · subst e; rw [List.getElem?_set_self (by rw [wipeA_length]; exact l)]
    · rw [List.getElem?_set_ne e]
      exact wipeA_in ((List.mem_cons.mp h).resolve_left fun q => e q.symm) l
theorem wipeA_out {Γ : Asrt} {i : Nat} : ∀ {vs : List Nat}, i ∉ vs → (wipeA Γ vs)[i]? = Γ[i]?
  | [], _ => rfl
  | v :: vs, h => by
    unfold wipeA
    rw [List.getElem?_set_ne (fun e => h (by simp [e]))]
    exact wipeA_out fun q => h (List.mem_cons_of_mem _ q)
theorem wipe_in {σ : L2.St} {i : Nat} : ∀ {vs : List Nat}, i ∈ vs → i < σ.length → (wipe σ vs)[i]? = some none
  | v :: vs, h, l => by
    unfold wipe
    by_cases e : v = i
    · subst e; rw [List.getElem?_set_self (by rw [wipe_length]; exact l)]
    · rw [List.getElem?_set_ne e]
      exact wipe_in ((List.mem_cons.mp h).resolve_left fun q => e q.symm) l
theorem wipe_eq {σ σ' : L2.St} {vs : List Nat} (hl : σ'.length = σ.length) (h : ∀ i, i ∉ vs → σ'[i]? = σ[i]?) : wipe σ' vs = wipe σ vs := by
  refine List.ext_getElem? fun i => ?_
  by_cases hi : i ∈ vs
  · by_cases l : i < σ.length
    · rw [wipe_in hi l, wipe_in hi (by rw [hl]; exact l)]
    · rw [List.getElem?_eq_none (by rw [wipe_length]; omega), List.getElem?_eq_none (by rw [wipe_length]; omega)]
  · rw [wipe_out hi, wipe_out hi, h i hi]
theorem wipeA_eq {Γ Γ' : Asrt} {vs : List Nat} (hl : Γ'.length = Γ.length) (h : ∀ i, i ∉ vs → Γ'[i]? = Γ[i]?) : wipeA Γ' vs = wipeA Γ vs := by
  refine List.ext_getElem? fun i => ?_
  by_cases hi : i ∈ vs
  · by_cases l : i < Γ.length
    · rw [wipeA_in hi l, wipeA_in hi (by rw [hl]; exact l)]
    · rw [List.getElem?_eq_none (by rw [wipeA_length]; omega), List.getElem?_eq_none (by rw [wipeA_length]; omega)]
  · rw [wipeA_out hi, wipeA_out hi, h i hi]

section
variable {P : Program} {w : World} {K : PySem.W.Frag} {mg : Str → Option Value} {base : Heap} {N : List Str} {sc : Scope} {fn : Str → Bool} {k : Nat}
/-- the blocks of a comprehension -/
def Fm.blk (M : Fm P w K mg base N sc fn k) (scope : Scope) : Fm P w K mg base N (relS scope sc) (fun x => scope.names.lookup x == some .cell) k where
  ι := M.ι × Shared × Hp × Addr × List (Str × Addr) × List Addr
  X := fun j => (M.X j.1).blk j.2.1 j.2.2.1 scope (compEnvC scope j.2.2.2.2.1 j.2.2.2.1 (M.X j.1).env) j.2.2.2.2.2
  prog := fun j => M.prog j.1
  wd := fun j => M.wd j.1
  kf := fun j => M.kf j.1
  mgl := fun j => M.mgl j.1
  bas := fun j => M.bas j.1
  nn := fun j => M.nn j.1
  scp := fun j => by show relS scope (M.X j.1).env.scope = _; rw [M.scp]
  calm := fun j => M.calm j.1
  room := fun j => M.room j.1
  pass := fun j => PassesOwn.never
  fnl := fun j x h => h
  nd := M.nd
variable {M : Fm P w K mg base N sc fn k}
variable {S : Type} {O : S → Res} {Γ : Asrt} {s : S} {α β γ ρ : Type} {ra : RP α} {rb : RP β} {rc : RP γ} {A : ρ → VA}

/-! ### targets -/
structure XGt (M : Fm P w K mg base N sc fn k) {α : Type} (tg : Expr) (r : RP α) (g : α → Asrt → Asrt) (L : List Nat) : Prop where
  run : ∀ {S : Type} (O : S → Res) (HI : Hp) (Γ : Asrt) (s : S) (σ : L2.St) (F H : Hp) (x : α) (v : V) (Q : L2.St → Hp → Prop), Γ.length = N.length → Stt O HI Γ s σ F H → r.r x v F →
    (∀ σ', σ'.length = σ.length → (∀ i, i ∉ L → σ'[i]? = σ[i]?) → Stt O HI (g x Γ) s σ' F H → Q σ' H) → rdG M tg v σ H Q
  len : ∀ x Γ, (g x Γ).length = Γ.length
  out : ∀ x Γ i, i ∉ L → (g x Γ)[i]? = Γ[i]?
theorem xg_name (i : Nat) {x : Str} {pos : Pos} (hN : N[i]? = some x := by rfl) (hx : Loc sc x := by first | exact Or.inl rfl | exact Or.inr rfl) (hf : fn x = true ∨ sc.names.lookup x = some .local := by first | exact Or.inl rfl | exact Or.inr rfl) :
    XGt M (.Name x pos) ra (fun y Γ => Γ.set i (some (fz ra y))) [i] := by
  refine ⟨fun O HI Γ s σ F H y v Q hl st ry hq => ?_, fun _ _ => List.length_set .., fun y Γ j hj => List.getElem?_set_ne fun e => hj (by simp [e])⟩
  have hi : i < N.length := (List.getElem?_eq_some_iff.mp hN).1
  refine ⟨gName i, fun j => pg_name (by rw [M.nn]; exact M.nd) (by rw [M.nn]; exact hN) (by rw [M.scp]; exact hx) (by rw [M.scp]; exact hf.imp (M.fnl j x) fun q => q), ?_⟩
  exact hq _ (List.length_set ..) (fun j hj => List.getElem?_set_ne fun e => hj (by simp [e])) (Stt.put (st.val ry) (by rw [hl]; exact hi))
theorem xg_tup2 {t1 t2 : Expr} {kk : Nat} {pos : Pos} {g1 : α → Asrt → Asrt} {g2 : β → Asrt → Asrt} {L1 L2 : List Nat} (h1 : XGt M t1 ra g1 L1) (h2 : XGt M t2 rb g2 L2)
    (hn : ∀ env, (assignEach [t1, t2] env).length = 2 := by intro _; rfl) (hst : ∀ env, (assignEach [t1, t2] env).findIdx? (·.1) = none := by intro _; rfl)
    (hs : ∀ env, (assignEach [t1, t2] env).map (·.2) = assign t1 env :: (assignEach [t2] env).map (·.2) := by intro _; rfl) (hs2 : ∀ env, (assignEach [t2] env).map (·.2) = assign t2 env :: (assignEach [] env).map (·.2) := by intro _; rfl) :
    XGt M (.Tuple [t1, t2] kk pos) (pP K ra rb) (fun y Γ => g2 y.2 (g1 y.1 Γ)) (L1 ++ L2) := by
  refine ⟨fun O HI Γ s σ F H y v Q hl st ry hq => ?_, fun y Γ => by rw [h2.len, h1.len], fun y Γ j hj => ?_⟩
  · obtain ⟨a, u1, u2, ev, hT, r1, r2⟩ := ry
    refine ⟨gTup K 2 (gCons (rdG M t1) (gCons (rdG M t2) gNil)), fun i => ?_, a, [u1, u2], ev, SqT.mono st.ok hT, rfl, u1, [u2], rfl, h1.run O HI Γ s σ F H y.1 u1 _ hl st r1 fun σ1 l1 o1 st1 => ⟨u2, [], rfl, h2.run O HI _ s σ1 F H y.2 u2 _ (by rw [h1.len]; exact hl) st1 r2 fun σ2 l2 o2 st2 => ⟨rfl, ?_⟩⟩⟩
    · have q := pg_tup (X := M.X i) (k := kk) (pos := pos) (M.calm i) (pgs_cons (rdG_ok i) (pgs_cons (rdG_ok i) pgs_nil (hs2 _)) (hs _)) (hn _) (hst _)
      rw [M.kf i] at q
      exact q
    · exact hq σ2 (l2.trans l1) (fun j hj => by rw [o2 j fun z => hj (List.mem_append_right _ z), o1 j fun z => hj (List.mem_append_left _ z)]) st2
  · rw [h2.out _ _ _ fun z => hj (List.mem_append_right _ z), h1.out _ _ _ fun z => hj (List.mem_append_left _ z)]
theorem xg_tup3 {t1 t2 t3 : Expr} {kk : Nat} {pos : Pos} {g1 : α → Asrt → Asrt} {g2 : β → Asrt → Asrt} {g3 : γ → Asrt → Asrt} {L1 L2 L3 : List Nat} (h1 : XGt M t1 ra g1 L1) (h2 : XGt M t2 rb g2 L2) (h3 : XGt M t3 rc g3 L3)
    (hn : ∀ env, (assignEach [t1, t2, t3] env).length = 3 := by intro _; rfl) (hst : ∀ env, (assignEach [t1, t2, t3] env).findIdx? (·.1) = none := by intro _; rfl)
    (hs : ∀ env, (assignEach [t1, t2, t3] env).map (·.2) = assign t1 env :: (assignEach [t2, t3] env).map (·.2) := by intro _; rfl) (hs2 : ∀ env, (assignEach [t2, t3] env).map (·.2) = assign t2 env :: (assignEach [t3] env).map (·.2) := by intro _; rfl)
    (hs3 : ∀ env, (assignEach [t3] env).map (·.2) = assign t3 env :: (assignEach [] env).map (·.2) := by intro _; rfl) :
    XGt M (.Tuple [t1, t2, t3] kk pos) (pP3 K ra rb rc) (fun y Γ => g3 y.2.2 (g2 y.2.1 (g1 y.1 Γ))) (L1 ++ (L2 ++ L3)) := by
  refine ⟨fun O HI Γ s σ F H y v Q hl st ry hq => ?_, fun y Γ => by rw [h3.len, h2.len, h1.len], fun y Γ j hj => ?_⟩
  · obtain ⟨a, u1, u2, u3, ev, hT, r1, r2, r3⟩ := ry
    refine ⟨gTup K 3 (gCons (rdG M t1) (gCons (rdG M t2) (gCons (rdG M t3) gNil))), fun i => ?_, a, [u1, u2, u3], ev, SqT.mono st.ok hT, rfl, u1, [u2, u3], rfl, h1.run O HI Γ s σ F H y.1 u1 _ hl st r1 fun σ1 l1 o1 st1 => ⟨u2, [u3], rfl, h2.run O HI _ s σ1 F H y.2.1 u2 _ (by rw [h1.len]; exact hl) st1 r2 fun σ2 l2 o2 st2 =>
      ⟨u3, [], rfl, h3.run O HI _ s σ2 F H y.2.2 u3 _ (by rw [h2.len, h1.len]; exact hl) st2 r3 fun σ3 l3 o3 st3 => ⟨rfl, ?_⟩⟩⟩⟩
    · have q := pg_tup (X := M.X i) (k := kk) (pos := pos) (M.calm i) (pgs_cons (rdG_ok i) (pgs_cons (rdG_ok i) (pgs_cons (rdG_ok i) pgs_nil (hs3 _)) (hs2 _)) (hs _)) (hn _) (hst _)
      rw [M.kf i] at q
      exact q
    · exact hq σ3 (l3.trans (l2.trans l1)) (fun j hj => by
        rw [o3 j fun z => hj (List.mem_append_right _ (List.mem_append_right _ z)), o2 j fun z => hj (List.mem_append_right _ (List.mem_append_left _ z)), o1 j fun z => hj (List.mem_append_left _ z)]) st3
  · rw [h3.out _ _ _ fun z => hj (List.mem_append_right _ (List.mem_append_right _ z)), h2.out _ _ _ fun z => hj (List.mem_append_right _ (List.mem_append_left _ z)), h1.out _ _ _ fun z => hj (List.mem_append_left _ z)]

/-! ### what is walked -/
theorem xi_list {tg e : Expr} {wa : (List α → S → Prop) → Prop} (ha : XE M O Γ s e (fz (pL K ra)) wa) : XI M O Γ s tg e ra wa := by
  intro HI C R σ F H st hq hc
  refine ⟨_, fun i => (by have h := pi_list (X := M.X i) (tg := tg) (rdE_ok (M := M) i (e := e)); rw [M.kf i] at h; exact h), ha HI _ _ σ F H st (fun xs s1 u F1 H1 c1 e1 sv1 => ?_) hc⟩
  obtain ⟨⟨a, vs, h1, h2, h3⟩, st1⟩ := sv1.fz
  refine ⟨a, h1, ⟨vs, SqL.mono st1.ok h2⟩, hq xs s1 _ F1 H1 c1 e1 st1 fun F2 e2 HI' h H2 ok => ⟨fun i x hx => ?_, ?_⟩⟩
  · obtain ⟨v, hv, rv⟩ := h3.get hx
    refine ⟨⟨vs, v, SqL.mono (e2.trans ok.fz) h2, hv⟩, fun v' H' hy => ?_⟩
    obtain ⟨eh, hy⟩ := hy
    subst eh
    have := hy vs (SqL.mono (e2.trans ok.fz) h2)
    rw [hv] at this; cases this
    exact ⟨F2, Same.refl _, ok, ra.mono e2 rv⟩
  · exact ⟨vs, SqL.mono (e2.trans ok.fz) h2, by rw [h3.length]; exact Nat.le_refl _⟩
theorem xi_tup {tg e : Expr} {wa : (List α → S → Prop) → Prop} (ha : XE M O Γ s e (fz (pU K ra)) wa) : XI M O Γ s tg e ra wa := by
  intro HI C R σ F H st hq hc
  refine ⟨_, fun i => (by have h := pi_tup (X := M.X i) (tg := tg) (rdE_ok (M := M) i (e := e)); rw [M.kf i] at h; exact h), ha HI _ _ σ F H st (fun xs s1 u F1 H1 c1 e1 sv1 => ?_) hc⟩
  obtain ⟨⟨a, vs, h1, h2, h3⟩, st1⟩ := sv1.fz
  refine ⟨a, h1, ⟨vs, SqT.mono st1.ok h2⟩, hq xs s1 _ F1 H1 c1 e1 st1 fun F2 e2 HI' h H2 ok => ⟨fun i x hx => ?_, ?_⟩⟩
  · obtain ⟨v, hv, rv⟩ := h3.get hx
    refine ⟨⟨vs, v, SqT.mono (e2.trans ok.fz) h2, hv⟩, fun v' H' hy => ?_⟩
    obtain ⟨eh, hy⟩ := hy
    subst eh
    have := hy vs (SqT.mono (e2.trans ok.fz) h2)
    rw [hv] at this; cases this
    exact ⟨F2, Same.refl _, ok, ra.mono e2 rv⟩
  · exact ⟨vs, SqT.mono (e2.trans ok.fz) h2, by rw [h3.length]; exact Nat.le_refl _⟩
/-- the signs of a text -/
def sgs (x : Text) : List Text := x.map fun c => [c]
theorem xi_str {tg e : Expr} {wa : (Text → S → Prop) → Prop} (ha : XE M O Γ s e (fz pT) wa) : XI M O Γ s tg e pT (fun k => wa fun x s1 => k (sgs x) s1) := by
  intro HI C R σ F H st hq hc
  refine ⟨_, fun i => pi_str (rdE_ok i), ha HI _ _ σ F H st (fun x s1 u F1 H1 c1 e1 sv1 => ?_) hc⟩
  obtain ⟨⟨h1, h2⟩, st1⟩ := sv1.fz
  refine ⟨⟨x.toArray⟩, h1, hq (sgs x) s1 _ F1 H1 c1 e1 st1 fun F2 e2 HI' h H2 ok => ⟨fun i y hy => ?_, ?_⟩⟩
  · unfold sgs at hy
    rw [List.getElem?_map] at hy
    cases q : x[i]? with
    | none => rw [q] at hy; cases hy
    | some c =>
      rw [q] at hy; cases hy
      refine ⟨by show i < x.toArray.size; simpa using (List.getElem?_eq_some_iff.mp q).1, fun v' H' hy => ?_⟩
      obtain ⟨eh, c', hc', ev⟩ := hy
      subst eh ev
      have e : c' = c := by
        have : x[i]? = some c' := by simpa using hc'
        rw [q] at this; cases this; rfl
      subst e
      exact ⟨F2, Same.refl _, ok, rfl, fun d hd => by
        have e : d = c' := by simpa using hd
        subst e; exact h2 _ (List.mem_of_getElem? q)⟩
  · show (x.toArray).size ≤ _
    simp [sgs]
/-- lo, lo + 1, .. -/
def rg (lo : Int) (n : Nat) : List Int := (List.range n).map fun (i : Nat) => lo + (i : Int)
theorem jok_range (lo : Int) (n : Nat) (F : Hp) : JOk (Itr lo n) pI (rg lo n) F := by
  intro F1 e1 HI h H ok
  refine ⟨fun i x hx => ?_, ?_⟩
  · unfold rg at hx
    rw [List.getElem?_map] at hx
    by_cases hi : i < n
    · rw [List.getElem?_range hi] at hx
      cases hx
      refine ⟨hi, fun v H' hy => ?_⟩
      obtain ⟨eh, ev⟩ := hy
      subst eh ev
      exact ⟨F1, Same.refl _, ok, rfl⟩
    · rw [List.getElem?_eq_none (by simpa using hi)] at hx; cases hx
  · show n ≤ (rg lo n).length
    simp [rg]
theorem xi_range1 {tg a : Expr} {p pos : Pos} {wa : (Int → S → Prop) → Prop} (hm : mg "range" = none) (ha : XE M O Γ s a (fz pI) wa) (hg : GlN sc "range" := by rfl) (hs : NoStar a := by intro _ _; rfl) :
    XI M O Γ s tg (.Call (.Name "range" p) [a] [] pos) pI (fun k => wa fun j s1 => (-(2 ^ 62) ≤ j ∧ j < 2 ^ 62) ∧ k (rg 0 j.toNat) s1) := by
  intro HI C R σ F H st hq hc
  refine ⟨_, fun i => pi_range1 (Gl.of hg i) (M.none hm i) (pa_cons (rdE_ok i) pa_nil (hs _ _)) (hs _ _), ha HI _ _ σ F H st (fun x s1 u F1 H1 c1 e1 sv1 => ?_) hc⟩
  obtain ⟨rx, st1⟩ := sv1.fz
  exact ⟨x, by rw [show u = .int x from rx], c1.1.1, c1.1.2, hq _ s1 _ F1 H1 c1.2 e1 st1 (jok_range 0 x.toNat F1)⟩
theorem xi_range2 {tg a b : Expr} {p pos : Pos} {wa : (Int → S → Prop) → Prop} {wb : S → (Int → S → Prop) → Prop} (hm : mg "range" = none) (ha : XE M O Γ s a (fz pI) wa) (hb : ∀ s', XE M O Γ s' b (fz pI) (wb s')) (hg : GlN sc "range" := by rfl) (hs : NoStar a := by intro _ _; rfl) (hs2 : NoStar b := by intro _ _; rfl) :
    XI M O Γ s tg (.Call (.Name "range" p) [a, b] [] pos) pI (fun k => wa fun i s1 => wb s1 fun j s2 => (-(2 ^ 62) ≤ i ∧ i < 2 ^ 62 ∧ -(2 ^ 62) ≤ j ∧ j < 2 ^ 62) ∧ k (rg i (j - i).toNat) s2) := by
  intro HI C R σ F H st hq hc
  refine ⟨_, fun i => pi_range2 (Gl.of hg i) (M.none hm i) (pa_cons (rdE_ok i) (pa_cons (rdE_ok i) pa_nil (hs2 _ _)) (hs _ _)) (by rw [hs, hs2]; rfl) (hs2 _ _), ?_⟩
  refine two ha hb st (R := fun u v H2 => _) (fun x y s' u v F' H' c e rx ry st' => ?_) hc
  exact ⟨x, y, by rw [show u = .int x from rx, show v = .int y from ry], c.1, hq _ s' _ F' H' c.2 e st' (jok_range x _ F')⟩
/-- what zip and enumerate draw from -/
def Drw (K : PySem.W.Frag) {ι : Type} (ra : RP α) (ri : RP ι) (f : α → List ι) : Prop := ∀ {x v F H}, Same F H → ra.r x v F → ∃ xs, ∀ R : Kd → Prop,
  (∀ kd : Kd, (∀ F1 H1, Same F F1 → Same F1 H1 → ∃ vs, kd.its K H1 vs ∧ All2 (fun x v => ri.r x v F1) (f x) vs) → R kd) → KdV K H v xs R
theorem drw_L : Drw K (pL K ra) ra (fun xs => xs) := fun {x v F H} e ⟨a, vs, h1, h2, h3⟩ => ⟨vs, fun R hR => .inr (.inl ⟨a, h1, SqL.mono e h2, hR _ fun F1 H1 e1 e2 => ⟨vs, SqL.mono (e1.trans e2) h2, h3.imp fun _ _ q => ra.mono e1 q⟩⟩)⟩
theorem drw_U : Drw K (pU K ra) ra (fun xs => xs) := fun {x v F H} e ⟨a, vs, h1, h2, h3⟩ => ⟨vs, fun R hR => .inr (.inr ⟨a, h1, SqT.mono e h2, hR _ fun F1 H1 e1 e2 => ⟨vs, SqT.mono (e1.trans e2) h2, h3.imp fun _ _ q => ra.mono e1 q⟩⟩)⟩
theorem sgs_all2 {F : Hp} : ∀ {x : Text}, okT x → All2 (fun x v => pT.r x v F) (sgs x) (x.map fun c => V.str ⟨#[c]⟩)
  | [], _ => trivial
  | c :: x, h => ⟨⟨rfl, fun d hd => by
      have e : d = c := by simpa using hd
      subst e; exact h _ List.mem_cons_self⟩, sgs_all2 fun d hd => h d (List.mem_cons_of_mem _ hd)⟩
theorem drw_T : Drw K pT pT sgs := fun {x v F H} e h => ⟨x.map fun c => V.str ⟨#[c]⟩, fun R hR => .inl ⟨⟨x.toArray⟩, h.1, by simp, fun t => hR _ fun F1 H1 e1 e2 => ⟨_, by show _ = (x.toArray.toList.map _); rw [List.toList_toArray], sgs_all2 h.2⟩⟩⟩
theorem zip_get {α β : Type} : ∀ {xs : List α} {ys : List β} {i : Nat} {x : α × β}, (xs.zip ys)[i]? = some x → xs[i]? = some x.1 ∧ ys[i]? = some x.2
  | [], _, _, _, h => by simp at h
  | _ :: _, [], _, _, h => by simp at h
  | a :: xs, b :: ys, 0, x, h => by
    have e : (a, b) = x := Option.some.inj h
    subst e; exact ⟨rfl, rfl⟩
  | a :: xs, b :: ys, i + 1, x, h => zip_get (xs := xs) (ys := ys) (i := i) h
theorem xi_zip {ι κ : Type} {ri : RP ι} {rk : RP κ} {f : α → List ι} {g : β → List κ} {e e2 : Expr} {elts : List Expr} {kk : Nat} {tpos p pos : Pos} {wa : (α → S → Prop) → Prop} {wb : S → (β → S → Prop) → Prop} (hm : mg "zip" = none)
    (d1 : Drw K ra ri f) (d2 : Drw K rb rk g) (ha : XE M O Γ s e (fz ra) wa) (hb : ∀ s', XE M O Γ s' e2 (fz rb) (wb s')) (hg : GlN sc "zip" := by rfl) (hs : NoStar e := by intro _ _; rfl) (hs2 : NoStar e2 := by intro _ _; rfl) :
    XI M O Γ s (.Tuple elts kk tpos) (.Call (.Name "zip" p) [e, e2] [] pos) (pP K ri rk) (fun k => wa fun x s1 => wb s1 fun y s2 => k ((f x).zip (g y)) s2) := by
  intro HI C R σ F H st hq hc
  refine ⟨_, fun i => (by
    have h := pi_z (X := M.X i) (elts := elts) (kk := kk) (tpos := tpos) (p := p) (pos := pos) (Gl.of hg i) (M.none hm i) (pa_cons (rdE_ok (M := M) i (e := e)) (pa_cons (rdE_ok (M := M) i (e := e2)) pa_nil (hs2 _ _)) (hs _ _)) (hs _ _) (by rw [hs2 [] (M.X i).env]; rfl)
    rw [M.kf i] at h; exact h), ?_⟩
  refine two ha hb st (R := fun u v H2 => _) (fun x y s' u v F' H' c e1 rx ry st' => ?_) hc
  obtain ⟨xs, hx⟩ := d1 st'.ok rx
  obtain ⟨ys, hy⟩ := d2 st'.ok ry
  refine ⟨u, v, xs, ys, rfl, hx _ fun k1 h1 => hy _ fun k2 h2 => hq _ s' _ F' H' c e1 st' fun F2 e2 HI' h H2 ok => ⟨fun i z hz => ?_, ?_⟩⟩
  · obtain ⟨vs, hv1, hv2⟩ := h1 F2 H2 e2 ok.fz
    obtain ⟨ws, hw1, hw2⟩ := h2 F2 H2 e2 ok.fz
    obtain ⟨z1, z2⟩ := zip_get hz
    obtain ⟨v1, g1, r1⟩ := hv2.get z1
    obtain ⟨v2, g2, r2⟩ := hw2.get z2
    refine ⟨⟨vs, ws, v1, v2, hv1, hw1, g1, g2⟩, fun v' H' hy => ?_⟩
    obtain ⟨T, w1, w2, ev, nT, eh, q1, q2⟩ := hy
    subst ev eh
    have e3 := q1 vs hv1
    rw [g1] at e3; cases e3
    have e4 := q2 ws hw1
    rw [g2] at e4; cases e4
    have e5 : Same F2 (upd F2 T (.tup [v1, v2])) := same_upd (ok.free nT).1
    exact ⟨_, e5, ok.newF nT, T, v1, v2, rfl, .inl (.inl upd_same), ri.mono e5 r1, rk.mono e5 r2⟩
  · obtain ⟨vs, hv1, hv2⟩ := h1 F2 H2 e2 ok.fz
    obtain ⟨ws, hw1, hw2⟩ := h2 F2 H2 e2 ok.fz
    exact ⟨vs, ws, hv1, hw1, by rw [List.length_zip, hv2.length, hw2.length]⟩
/-- enumerate's pairs -/
def enI {ι : Type} (xs : List ι) : List (Int × ι) := xs.zipIdx.map fun p => ((p.2 : Int), p.1)
theorem enI_get {ι : Type} {xs : List ι} {i : Nat} {z : Int × ι} (h : (enI xs)[i]? = some z) : z.1 = (i : Int) ∧ xs[i]? = some z.2 := by
  unfold enI at h
  rw [List.getElem?_map, List.getElem?_zipIdx] at h
  cases q : xs[i]? with
  | none => rw [q] at h; cases h
  | some x => rw [q] at h; cases h; exact ⟨by simp, rfl⟩
theorem xi_enum {ι : Type} {ri : RP ι} {f : α → List ι} {e : Expr} {elts : List Expr} {kk : Nat} {tpos p pos : Pos} {wa : (α → S → Prop) → Prop} (hm : mg "enumerate" = none)
    (d1 : Drw K ra ri f) (ha : XE M O Γ s e (fz ra) wa) (hg : GlN sc "enumerate" := by rfl) (hs : NoStar e := by intro _ _; rfl) :
    XI M O Γ s (.Tuple elts kk tpos) (.Call (.Name "enumerate" p) [e] [] pos) (pP K pI ri) (fun k => wa fun x s1 => k (enI (f x)) s1) := by
  intro HI C R σ F H st hq hc
  refine ⟨_, fun i => (by
    have h := pi_e (X := M.X i) (elts := elts) (kk := kk) (tpos := tpos) (p := p) (pos := pos) (Gl.of hg i) (M.none hm i) (pa_cons (rdE_ok (M := M) i (e := e)) pa_nil (hs _ _)) (hs _ _)
    rw [M.kf i] at h; exact h), ha HI _ _ σ F H st (fun x s1 u F1 H1 c1 e1 sv1 => ?_) hc⟩
  obtain ⟨rx, st1⟩ := sv1.fz
  obtain ⟨xs, hx⟩ := d1 st1.ok rx
  refine ⟨u, xs, rfl, hx _ fun k1 h1 => hq _ s1 _ F1 H1 c1 e1 st1 fun F2 e2 HI' h H2 ok => ⟨fun i z hz => ?_, ?_⟩⟩
  · obtain ⟨vs, hv1, hv2⟩ := h1 F2 H2 e2 ok.fz
    obtain ⟨z1, z2⟩ := enI_get hz
    obtain ⟨v1, g1, r1⟩ := hv2.get z2
    refine ⟨⟨vs, v1, hv1, g1⟩, fun v' H' hy => ?_⟩
    obtain ⟨T, w1, ev, nT, eh, q1⟩ := hy
    subst ev eh
    have e3 := q1 vs hv1
    rw [g1] at e3; cases e3
    have e5 : Same F2 (upd F2 T (.tup [.int (i : Nat), v1])) := same_upd (ok.free nT).1
    exact ⟨_, e5, ok.newF nT, T, .int (i : Nat), v1, rfl, .inl (.inl upd_same), by show V.int _ = V.int _; rw [z1], ri.mono e5 r1⟩
  · obtain ⟨vs, hv1, hv2⟩ := h1 F2 H2 e2 ok.fz
    exact ⟨vs, hv1, by unfold enI; rw [List.length_map, List.length_zipIdx, hv2.length]⟩
end
end Sm

set_option Elab.async false
set_option linter.all false
set_option maxRecDepth 100000
set_option maxHeartbeats 4000000
namespace Sm
open PySem PySem.Spec PyProof.Rows L2
/-- a comprehension, word by word -/
def compW {α β S : Type} (B : α → S → (Option β → S → Prop) → Prop) (k : List β → S → Prop) : List α → S → List β → Prop
  | [], s, acc => k acc s
  | x :: xs, s, acc => B x s fun o s' => compW B k xs s' (match o with | none => acc | some y => acc ++ [y])
/-- a for loop, word by word: c what it carries, kn the next turn, kb a break -/
def forB {α γ S : Type} (B : α → γ → S → (γ → S → Prop) → (γ → S → Prop) → Prop) (k : γ → S → Prop) : List α → γ → S → Prop
  | [], c, s => k c s
  | x :: xs, c, s => B x c s (fun c' s' => forB B k xs c' s') k
section
variable {P : Program} {w : World} {K : PySem.W.Frag} {mg : Str → Option Value} {base : Heap} {N : List Str} {sc : Scope} {fn : Str → Bool} {k : Nat}
variable {M : Fm P w K mg base N sc fn k}
variable {S : Type} {O : S → Res} {Γ : Asrt} {s : S} {α β γ ρ : Type} {ra : RP α} {rb : RP β} {rc : RP γ} {A : ρ → VA}
/-! ### tests of a clause -/
def XTs (M : Fm P w K mg base N sc fn k) (O : S → Res) (Γ : Asrt) (s : S) (es : List Expr) (W : (Bool → S → Prop) → Prop) : Prop :=
  ∀ (HI : Hp) (C : Bool → S → Prop) (Q : Bool → Hp → Prop) (σ : L2.St) (F H : Hp), Stt O HI Γ s σ F H →
    (∀ x s' F' H', C x s' → Same F F' → Stt O HI Γ s' σ F' H' → Q x H') → W C → rdTs M es σ H Q
theorem xts_nil : XTs M O Γ s [] (fun k => k true s) := by
  intro HI C Q σ F H st hq hc
  exact ⟨_, fun i => pts_nil, hq true s F H hc (Same.refl _) st⟩
theorem xts_one {c : Expr} {W : (Bool → S → Prop) → Prop} (h : XT M O Γ s c W) : XTs M O Γ s [c] W := by
  intro HI C Q σ F H st hq hc
  exact ⟨_, fun i => pts_one (rdT_ok i), h HI C Q σ F H st hq hc⟩

/-! ### list comprehensions -/
theorem lc_run {tg iter elt : Expr} {ifs : List Expr} {scope : Scope} {vs L : List Nat} {g : α → Asrt → Asrt} {wi : (List α → S → Prop) → Prop} {wt : α → S → (Bool → S → Prop) → Prop} {we : α → S → (β → S → Prop) → Prop}
    (hi : XI M O Γ s tg iter ra wi) (hg : XGt (M.blk scope) tg ra g L) (hL : ∀ i ∈ L, i ∈ vs) (hΓ : Γ.length = N.length)
    (ht : ∀ x s', XTs (M.blk scope) O (g x (wipeA Γ vs)) s' ifs (wt x s')) (he : ∀ x s', XE (M.blk scope) O (g x (wipeA Γ vs)) s' elt (fz rb) (we x s'))
    {HI : Hp} {C : List β → S → Prop} {Q : VK} {σ : L2.St} {F H : Hp} (st : Stt O HI Γ s σ F H) (hq : ∀ ys s' v F' H', C ys s' → Same F F' → SttV O HI Γ s' σ F' H' (ol rb ys) v → Q v H')
    (hc : wi fun xs s1 => xs.length ≤ sizeLine ∧ compW (fun x s k => wt x s fun b s1 => if b = true then we x s1 fun y s2 => k (some y) s2 else k none s1) C xs s1 []) :
    tLc (rdI M tg iter) (rdG (M.blk scope) tg) (rdTs (M.blk scope) ifs) (rdE (M.blk scope) elt) vs σ H Q := by
  refine hi HI _ _ σ F H st (fun xs s1 J F1 H1 c1 e1 st1 jk => ?_) hc
  intro D hD
  obtain ⟨hz, c1⟩ := c1
  let B := (fun (x : α) (s : S) (k : Option β → S → Prop) => wt x s fun b s1 => if b = true then we x s1 fun y s2 => k (some y) s2 else k none s1)
  let I : Nat → Hp → Prop := fun i H => ∃ (s' : S) (F' : Hp) (acc : List β) (accv : List V) (h1 h2 : HL), Same F1 F' ∧ All2 (fun x v => rb.r x v F') acc accv ∧ acc.length ≤ i ∧ Sat Γ σ F' h1 ∧ (O s').p F' h2 ∧ Ok F' ((D, .lst accv) :: (h1 ++ h2)) HI H ∧ compW B C (xs.drop i) s' acc
  refine ⟨fun i m H => m = xs.length - i ∧ i ≤ xs.length ∧ I i H, ⟨xs.length, by simp, Nat.zero_le _, ?_⟩, ?_⟩
  · obtain ⟨h1, h2, a, b, ok⟩ := st1
    exact ⟨s1, F1, [], [], h1, h2, Same.refl _, trivial, Nat.le_refl _, a, b, ok.newO hD, c1⟩
  · rintro i m H2 ⟨rfl, hi', s', F', acc, accv, h1, h2, e2, al, hl, sa, so, ok, cw⟩
    obtain ⟨j1, j2⟩ := jk F' e2 HI _ H2 ok
    by_cases hlt : i < xs.length
    · have hx : xs[i]? = some xs[i] := List.getElem?_eq_getElem hlt
      obtain ⟨jgo, jy⟩ := j1 i _ hx
      refine .inr ⟨jgo, I (i + 1), fun H' p' => ⟨xs.length - (i + 1), by omega, rfl, hlt, p'⟩, fun v H3 hy => ?_⟩
      obtain ⟨F3, e3, ok3, rv⟩ := jy v H3 hy
      rw [List.drop_eq_getElem_cons hlt] at cw
      obtain ⟨g1, g2, pm, sw, back⟩ := (sa.mono e3).takes vs
      have okp : Ok F3 ((g1 ++ h2) ++ ((D, .lst accv) :: g2)) HI H3 := ok3.perm (by
        refine (List.Perm.cons _ ?_).trans List.perm_middle.symm
        refine (pm.append_right h2).trans ?_
        rw [List.append_assoc, List.append_assoc]
        exact List.Perm.append_left g1 List.perm_append_comm)
      have stB : Stt O (Sm.hide HI ((D, .lst accv) :: g2)) (wipeA Γ vs) s' (L2.wipe σ vs) F3 H3 := ⟨g1, h2, sw, (O s').mono e3 so, okp.hide⟩
      refine hg.run O _ _ s' _ F3 H3 xs[i] v _ (by rw [wipeA_length]; exact hΓ) stB rv fun σ4 l4 o4 st4 => ?_
      have ew : L2.wipe σ4 vs = L2.wipe σ vs := by
        refine wipe_eq (l4.trans (wipe_length _ _)) fun j hj => ?_
        rw [o4 j fun z => hj (hL j z), wipe_out hj]
      have eg : ∀ x, wipeA (g x (wipeA Γ vs)) vs = wipeA Γ vs := fun x => by
        refine wipeA_eq (by rw [hg.len, wipeA_length]) fun j hj => ?_
        rw [hg.out _ _ _ fun z => hj (hL j z), wipeA_out hj]
      -- behind the turn: the slots as they stood
      have home : ∀ {s5 : S} {F5 H5 : Hp}, Same F3 F5 → Stt O (Sm.hide HI ((D, .lst accv) :: g2)) (g xs[i] (wipeA Γ vs)) s5 σ4 F5 H5 → ∃ k1 k2, Sat Γ σ F5 k1 ∧ (O s5).p F5 k2 ∧ Ok F5 ((D, .lst accv) :: (k1 ++ k2)) HI H5 := fun {s5 F5 H5} e5 ⟨q1, q2, a1, a2, a3⟩ => by
        obtain ⟨q3, sub, a4⟩ := Sat.wipe a1 vs
        rw [eg, ew] at a4
        obtain ⟨h0, p0, a5⟩ := back F5 q3 e5 a4
        refine ⟨h0, q2, a5, a2, ?_⟩
        have ok6 := okp.unhide (a3.sub (List.Sublist.append_right sub q2))
        refine ok6.perm ?_
        refine List.perm_middle.trans (List.Perm.cons _ ?_)
        refine List.Perm.trans ?_ (p0.symm.append_right q2)
        rw [List.append_assoc, List.append_assoc]
        exact List.Perm.append_left q3 List.perm_append_comm
      refine ⟨ew, ht xs[i] s' _ _ _ σ4 F3 H3 st4 (fun b s5 F5 H5 c5 e5 st5 => ?_) cw⟩
      cases b with
      | false =>
        refine iteF ?_
        have c5 := (by simpa using c5 : compW B C (xs.drop (i + 1)) s5 acc)
        obtain ⟨k1, k2, a1, a2, a3⟩ := home e5 st5
        exact ⟨s5, F5, acc, accv, k1, k2, e2.trans (e3.trans e5), al.imp fun _ _ q => rb.mono (e3.trans e5) q, by omega, a1, a2, a3, c5⟩
      | true =>
        refine iteT ?_
        have c5 := (by simpa using c5 : we xs[i] s5 fun y s2 => compW B C (xs.drop (i + 1)) s2 (acc ++ [y]))
        refine he xs[i] s5 _ _ _ σ4 F5 H5 st5 (fun y s6 u F6 H6 c6 e6 sv6 => ?_) c5
        obtain ⟨ru, st6⟩ := sv6.fz
        obtain ⟨k1, k2, a1, a2, a3⟩ := home (e5.trans e6) st6
        have e7 : Same F' F6 := e3.trans (e5.trans e6)
        refine ⟨accv, (a3.own _ List.mem_cons_self).1, ?_, ?_⟩
        · rw [← al.length]; omega
        · exact ⟨s6, F6, acc ++ [y], accv ++ [u], k1, k2, e2.trans e7, (al.imp fun _ _ q => rb.mono e7 q).append ⟨ru, trivial⟩, by rw [List.length_append, List.length_singleton]; omega, a1, a2, a3.set, c6⟩
    · have e : i = xs.length := by omega
      subst e
      rw [List.drop_length] at cw
      refine .inl ⟨j2, hq acc s' _ F' H2 cw (e1.trans e2) ⟨[(D, .lst accv)], h1, h2, ⟨D, accv, rfl, rfl, al⟩, sa, so, ok⟩⟩
theorem Stt.lenN {HI : Hp} {σ : L2.St} {F H : Hp} (h : Stt O HI Γ s σ F H) : Γ.length = σ.length := h.len
section
variable {tg iter elt : Expr} {ifs : List Expr} {scope : Scope} {pos : Pos} {L : List Nat} {g : α → Asrt → Asrt} {wi : (List α → S → Prop) → Prop} {wt : α → S → (Bool → S → Prop) → Prop} {we : α → S → (β → S → Prop) → Prop}
theorem xe_lcif (own : List (Str × Nat)) (hi : XI M O Γ s tg iter ra wi) (hg : XGt (M.blk scope) tg ra g L) (ht : ∀ x s', XTs (M.blk scope) O (g x (wipeA Γ (own.map (·.2)))) s' ifs (wt x s')) (he : ∀ x s', XE (M.blk scope) O (g x (wipeA Γ (own.map (·.2)))) s' elt (fz rb) (we x s'))
    (ok : blkC N sc scope own = true := by decide +kernel) (hL : ∀ i ∈ L, i ∈ own.map (·.2) := by decide) (hΓ : Γ.length = N.length := by rfl) (hs : ∀ env x, foldedSetIterable iter env x = pure x := by intro _ _; rfl) :
    XE M O Γ s (.ListComp elt [⟨tg, iter, ifs, 0⟩] scope pos) (ol rb) (fun k => wi fun xs s1 => xs.length ≤ sizeLine ∧ compW (fun x s k => wt x s fun b s1 => if b = true then we x s1 fun y s2 => k (some y) s2 else k none s1) k xs s1 []) := by
  intro HI C Q σ F H st hq hc
  refine ⟨_, fun i => pe_lc (own := own) (M.calm i) (by rw [M.nn]; exact M.nd) (rdI_ok i) (by rw [M.nn, M.scp]; exact blkOk_by ok) (fun s0 H0 C0 cl fp => rdG_ok (M := M.blk scope) (i, s0, H0, C0, cl, fp)) (fun s0 H0 C0 cl fp => rdTs_ok (M := M.blk scope) (i, s0, H0, C0, cl, fp)) (fun s0 H0 C0 cl fp => rdE_ok (M := M.blk scope) (i, s0, H0, C0, cl, fp)) (hs _), ?_⟩
  exact lc_run hi hg hL hΓ ht he st hq hc
theorem xe_lc (own : List (Str × Nat)) (hi : XI M O Γ s tg iter ra wi) (hg : XGt (M.blk scope) tg ra g L) (he : ∀ x s', XE (M.blk scope) O (g x (wipeA Γ (own.map (·.2)))) s' elt (fz rb) (we x s'))
    (ok : blkC N sc scope own = true := by decide +kernel) (hL : ∀ i ∈ L, i ∈ own.map (·.2) := by decide) (hΓ : Γ.length = N.length := by rfl) (hs : ∀ env x, foldedSetIterable iter env x = pure x := by intro _ _; rfl) :
    XE M O Γ s (.ListComp elt [⟨tg, iter, [], 0⟩] scope pos) (ol rb) (fun k => wi fun xs s1 => xs.length ≤ sizeLine ∧ compW (fun x s k => we x s fun y s2 => k (some y) s2) k xs s1 []) :=
  xe_lcif own hi hg (fun x s' => xts_nil) he ok hL hΓ hs
end

/-! ### statements -/
theorem sw_cell {elt : Expr} {gs : List Comprehension} {scope : Scope} {pos py : Pos} {y : Str} {l : Nat} {env : Env} (hy : (env.scope.names.lookup y == some .local) = false) : swapsWithSole [.Name y py] (.ListComp elt gs scope pos) l env = pure false := by
  have ky : (env.kindOf y == some .local) = false := hy
  show swapsWith (.ListComp elt gs scope pos) (some (.Name y py)) l env = pure false
  unfold swapsWith
  simp only [ky, Bool.and_false, Bool.false_and]
theorem xs_nil {HI F0 : Hp} {Γn : γ → Asrt} {kn : γ → S → Prop} {rt bk ct} (c : γ) (hl : Le Γ (Γn c)) : XSs M O HI F0 Γ s [] { nx := nxJ O HI F0 Γn kn, rt := rt, bk := bk, ct := ct } (kn c s) := by
  intro σ F H e st hp
  exact ⟨_, fun i => pss_nil, c, s, F, hp, e, st.le hl⟩
theorem xs_cont {HI F0 : Hp} {Γn : γ → Asrt} {kn : γ → S → Prop} {nx rt bk} {pos : Pos} {rest : List Stmt} (c : γ) (hl : Le Γ (Γn c)) : XSs M O HI F0 Γ s (.Continue pos :: rest) { nx := nx, rt := rt, bk := bk, ct := nxJ O HI F0 Γn kn } (kn c s) := by
  intro σ F H e st hp
  exact ⟨_, fun i => pss_cons ps_continue pss_never, c, s, F, hp, e, st.le hl⟩
theorem xs_brk {HI F00 F0 : Hp} {Γn : γ → Asrt} {kn : γ → S → Prop} {nx rt ct} {pos : Pos} {rest : List Stmt} (hF : Same F00 F0) (c : γ) (hl : Le Γ (Γn c)) : XSs M O HI F0 Γ s (.Break pos :: rest) { nx := nx, rt := rt, bk := nxJ O HI F00 Γn kn, ct := ct } (kn c s) := by
  intro σ F H e st hp
  exact ⟨_, fun i => pss_cons ps_break pss_never, c, s, F, hp, hF.trans e, st.le hl⟩
theorem SttV.bare {HI : Hp} {σ : L2.St} {F H : Hp} {A : VA} {v : V} (h : SttV O HI Γ s σ F H A v) : SttV O HI [] s [] F H A v := by
  obtain ⟨hv, h1, h2, a, b, c, d⟩ := h
  exact ⟨hv, [], h2, a, rfl, c, d.sub (List.Sublist.append_left (List.sublist_append_right _ _) _)⟩
theorem xs_ret {HI F00 F0 : Hp} {e : Expr} {pos : Pos} {rest : List Stmt} {W : (ρ → S → Prop) → Prop} {R : ρ → S → Prop} {nx bk ct} (hF : Same F00 F0) (he : XE M O Γ s e A W) : XSs M O HI F0 Γ s (.Return (some e) pos :: rest) { nx := nx, rt := rtJ O HI F00 A R, bk := bk, ct := ct } (W R) := by
  intro σ F H e0 st hp
  refine ⟨_, fun i => pss_cons (ps_ret (rdE_ok i)) pss_never, he HI R _ σ F H st (fun x s' v F' H' c e1 sv => ?_) hp⟩
  exact ⟨x, s', F', c, hF.trans (e0.trans e1), sv.bare⟩
/-- target = e -/
theorem xs_set {HI F0 : Hp} {D : Ends} {e : Expr} {x : Str} {p1 pos : Pos} {rest : List Stmt} {W : (ρ → S → Prop) → Prop} {Pk : ρ → S → Prop} (i : Nat) (he : XE M O Γ s e A W) (hk : ∀ y s', XSs M O HI F0 (Γ.set i (some (A y))) s' rest D (Pk y s'))
    (hN : N[i]? = some x := by rfl) (hx : Loc sc x := by first | exact Or.inl rfl | exact Or.inr rfl) (hf : fn x = true ∨ sc.names.lookup x = some .local := by first | exact Or.inl rfl | exact Or.inr rfl) (hΓ : Γ.length = N.length := by rfl)
    (hs : ∀ j, swapsWithSole [.Name x p1] e pos.line (M.X j).env = pure false := by intro _; first | rfl | exact sw_cell (by rw [Fm.scp]; decide +kernel)) (hw : ∀ j, swappedStores [.Name x p1] e (M.X j).env = pure none := by intro _; rfl) (h1 : ∀ env, (assignEach [.Name x p1] env).map (·.2) = [assign (.Name x p1) env] := by intro _; rfl) :
    XSs M O HI F0 Γ s (.Assign [.Name x p1] e pos :: rest) D (W Pk) := by
  intro σ F H e0 st hp
  have hi : i < N.length := (List.getElem?_eq_some_iff.mp hN).1
  refine ⟨_, fun j => pss_cons (ps_asg (g := gName i) (rdE_ok j) (pg_name (by rw [M.nn]; exact M.nd) (by rw [M.nn]; exact hN) (by rw [M.scp]; exact hx) (by rw [M.scp]; exact hf.imp (M.fnl j x) fun q => q)) (hs j) (hw j) (h1 _)) (rdSs_ok j), he HI Pk _ σ F H st (fun y s' v F' H' c e1 sv => ?_) hp⟩
  exact hk y s' _ F' H' (e0.trans e1) (Stt.put sv (by rw [hΓ]; exact hi)) c
/-- (a, b) = e -/
theorem xs_asg {HI F0 : Hp} {D : Ends} {tg e : Expr} {pos : Pos} {rest : List Stmt} {g : α → Asrt → Asrt} {L : List Nat} {W : (α → S → Prop) → Prop} {Pk : α → S → Prop} (he : XE M O Γ s e (fz ra) W) (hg : XGt M tg ra g L) (hk : ∀ y s', XSs M O HI F0 (g y Γ) s' rest D (Pk y s')) (hΓ : Γ.length = N.length := by rfl)
    (hs : ∀ j, swapsWithSole [tg] e pos.line (M.X j).env = pure false := by intro _; rfl) (hw : ∀ j, swappedStores [tg] e (M.X j).env = pure none := by intro _; rfl) (h1 : ∀ env, (assignEach [tg] env).map (·.2) = [assign tg env] := by intro _; rfl) :
    XSs M O HI F0 Γ s (.Assign [tg] e pos :: rest) D (W Pk) := by
  intro σ F H e0 st hp
  refine ⟨_, fun j => pss_cons (ps_asg (rdE_ok j) (rdG_ok j) (hs j) (hw j) (h1 _)) (rdSs_ok j), he HI Pk _ σ F H st (fun y s' v F' H' c e1 sv => ?_) hp⟩
  obtain ⟨rv, st'⟩ := sv.fz
  exact hg.run O HI Γ s' σ F' H' y v _ hΓ st' rv fun σ' l o st2 => hk y s' σ' F' H' (e0.trans e1) st2 c
/-- y = [elt for tg in iter if ..] -/
theorem xs_setLc {HI F0 : Hp} {D : Ends} {y : Str} {py pos pos' : Pos} {rest : List Stmt} {tg iter elt : Expr} {ifs : List Expr} {scope : Scope} {L : List Nat} {g : α → Asrt → Asrt} {wi : (List α → S → Prop) → Prop} {wt : α → S → (Bool → S → Prop) → Prop} {we : α → S → (β → S → Prop) → Prop} {Pk : List β → S → Prop}
    (i : Nat) (own : List (Str × Nat)) (hi : XI M O Γ s tg iter ra wi) (hg : XGt (M.blk scope) tg ra g L) (ht : ∀ x s', XTs (M.blk scope) O (g x (wipeA Γ (own.map (·.2)))) s' ifs (wt x s')) (he : ∀ x s', XE (M.blk scope) O (g x (wipeA Γ (own.map (·.2)))) s' elt (fz rb) (we x s'))
    (hk : ∀ z s', XSs M O HI F0 (Γ.set i (some (ol rb z))) s' rest D (Pk z s'))
    (hN : N[i]? = some y := by rfl) (hx : sc.names.lookup y = some .local := by rfl) (ok : blkC N sc scope own = true := by decide +kernel) (hL : ∀ i ∈ L, i ∈ own.map (·.2) := by decide) (hΓ : Γ.length = N.length := by rfl) (hs : ∀ env x, foldedSetIterable iter env x = pure x := by intro _ _; rfl)
    (hl : (py.line == pos.line) = true := by rfl) (ha : (scope.names.any fun (n, k) => n == y && (k == .local || k == .cell)) = false := by decide +kernel) (hkd : sc.kind = .function := by rfl) :
    XSs M O HI F0 Γ s (.Assign [.Name y py] (.ListComp elt [⟨tg, iter, ifs, 0⟩] scope pos) pos' :: rest) D (wi fun xs s1 => xs.length ≤ sizeLine ∧ compW (fun x s k => wt x s fun b s1 => if b = true then we x s1 fun y s2 => k (some y) s2 else k none s1) Pk xs s1 []) := by
  intro σ F H e0 st hp
  have hiN : i < N.length := (List.getElem?_eq_some_iff.mp hN).1
  refine ⟨_, fun j => pss_cons (ps_setLc (i := i) (own := own) (M.calm j) (by rw [M.nn]; exact M.nd) (by rw [M.nn]; exact hN) (by rw [M.scp]; exact hx) (sw_true (by rw [M.scp]; exact hkd) (by rw [M.scp]; exact hx) hl ha) (rdI_ok j) (by rw [M.nn, M.scp]; exact blkOk_by ok)
    (fun s0 H0 C0 cl fp => rdG_ok (M := M.blk scope) (j, s0, H0, C0, cl, fp)) (fun s0 H0 C0 cl fp => rdTs_ok (M := M.blk scope) (j, s0, H0, C0, cl, fp)) (fun s0 H0 C0 cl fp => rdE_ok (M := M.blk scope) (j, s0, H0, C0, cl, fp)) (hs _)) (rdSs_ok j), ?_⟩
  have q : tLc (rdI M tg iter) (rdG (M.blk scope) tg) (rdTs (M.blk scope) ifs) (rdE (M.blk scope) elt) (own.map (·.2)) σ H (fun v H' => rdSs M rest D (σ.set i (some v)) H') :=
    lc_run (C := Pk) hi hg hL hΓ ht he st (fun ys s' v F' H' c e1 sv => hk ys s' _ F' H' (e0.trans e1) (Stt.put sv (by rw [hΓ]; exact hiN)) c) hp
  exact q
theorem xs_expr {HI F0 : Hp} {D : Ends} {e : Expr} {pos : Pos} {rest : List Stmt} {W : (ρ → S → Prop) → Prop} {Pk : S → Prop} (he : XE M O Γ s e A W) (hk : ∀ s', XSs M O HI F0 Γ s' rest D (Pk s')) (hs : ∀ j, swapsWith e none pos.line (M.X j).env = pure false := by intro _; rfl) :
    XSs M O HI F0 Γ s (.Expr e pos :: rest) D (W fun _ s' => Pk s') := by
  intro σ F H e0 st hp
  refine ⟨_, fun j => pss_cons (ps_expr (rdE_ok j) (hs j)) (rdSs_ok j), he HI _ _ σ F H st (fun y s' v F' H' c e1 sv => ?_) hp⟩
  exact hk s' σ F' H' (e0.trans e1) sv.drop c
/-- an if whose first way does not come to what stands behind -/
theorem xs_if {HI F0 : Hp} {nx rt bk ct} {c : Expr} {a rest : List Stmt} {pos : Pos} {wc : (Bool → S → Prop) → Prop} {Pa Pb : S → Prop} (hc : XT M O Γ s c wc)
    (ha : ∀ nx' s', XSs M O HI F0 Γ s' a { nx := nx', rt := rt, bk := bk, ct := ct } (Pa s')) (hb : ∀ s', XSs M O HI F0 Γ s' rest { nx := nx, rt := rt, bk := bk, ct := ct } (Pb s')) :
    XSs M O HI F0 Γ s (.If c a [] pos :: rest) { nx := nx, rt := rt, bk := bk, ct := ct } (wc fun x s1 => if x = true then Pa s1 else Pb s1) := by
  intro σ F H e0 st hp
  refine ⟨_, fun j => pss_cons (ps_if (rdT_ok j) (rdSs_ok j) pss_nil) (rdSs_ok j), hc HI _ _ σ F H st (fun x s' F' H' c e1 st1 => ?_) hp⟩
  cases x with
  | true => exact iteT (ha _ s' σ F' H' (e0.trans e1) st1 (by simpa using c))
  | false => exact iteF (hb s' σ F' H' (e0.trans e1) st1 (by simpa using c))
/-- a statement, and what stands behind it by what is wanted there -/
theorem seqJ {st : Stmt} {rest : List Stmt} {D : Ends} {σ : L2.St} {H : Hp} {R : L2.St → Hp → Prop} (hR : ∀ σ' H', R σ' H' → rdSs M rest D σ' H') (h : rdS M st { nx := R, rt := D.rt, bk := D.bk, ct := D.ct } σ H) : rdSs M (st :: rest) D σ H := by
  refine ⟨tSeq (rdS M st) (fun D' σ' H' => R σ' H' ∧ D' = D), fun i => pss_cons (rdS_ok i) ⟨fun pins s σ H D' I ⟨q, e⟩ => by subst e; exact (rdSs_ok i).run pins s σ H _ I (hR _ _ q)⟩, ?_⟩
  have e : (fun σ' H' => R σ' H' ∧ D = D) = R := funext fun _ => funext fun _ => propext (and_iff_left rfl)
  show rdS M st { nx := fun σ' H' => R σ' H' ∧ D = D, rt := D.rt, bk := D.bk, ct := D.ct } σ H
  rw [e]; exact h
/-- the ways of an if meet: what stands behind is said once -/
def jn {γ S : Type} (body : (γ → S → Prop) → Prop) (kj : γ → S → Prop) : Prop := body kj
theorem xs_ifj {HI F0 : Hp} {nx rt bk ct} {c : Expr} {a b rest : List Stmt} {pos : Pos} {wc : (Bool → S → Prop) → Prop} {Pa Pb : (γ → S → Prop) → S → Prop} {Pk : γ → S → Prop} (Γj : γ → Asrt) (hc : XT M O Γ s c wc)
    (ha : ∀ kj s', XSs M O HI F0 Γ s' a { nx := nxJ O HI F0 Γj kj, rt := rt, bk := bk, ct := ct } (Pa kj s')) (hb : ∀ kj s', XSs M O HI F0 Γ s' b { nx := nxJ O HI F0 Γj kj, rt := rt, bk := bk, ct := ct } (Pb kj s'))
    (hk : ∀ z s', XSs M O HI F0 (Γj z) s' rest { nx := nx, rt := rt, bk := bk, ct := ct } (Pk z s')) :
    XSs M O HI F0 Γ s (.If c a b pos :: rest) { nx := nx, rt := rt, bk := bk, ct := ct } (jn (fun kj => wc fun x s1 => if x = true then Pa kj s1 else Pb kj s1) Pk) := by
  intro σ F H e0 st hp
  refine seqJ (R := nxJ O HI F0 Γj Pk) (fun σ' H' ⟨z, s', F', p, e, st'⟩ => hk z s' σ' F' H' e st' p) ?_
  refine ⟨_, fun j => ps_if (rdT_ok j) (rdSs_ok j) (rdSs_ok j), hc HI _ _ σ F H st (fun x s' F' H' c e1 st1 => ?_) hp⟩
  cases x with
  | true => exact iteT (ha Pk s' σ F' H' (e0.trans e1) st1 (by simpa using c))
  | false => exact iteF (hb Pk s' σ F' H' (e0.trans e1) st1 (by simpa using c))
/-- for tg in iter -/
theorem xs_for {HI F0 : Hp} {nx rt bk ct} {tg iter : Expr} {body rest : List Stmt} {pos : Pos} {g : α → Asrt → Asrt} {L : List Nat} {wi : (List α → S → Prop) → Prop} {B : α → γ → S → (γ → S → Prop) → (γ → S → Prop) → Prop} {Pk : γ → S → Prop}
    (Γi : γ → Asrt) (c0 : γ) (hi : XI M O Γ s tg iter ra wi) (hg : XGt M tg ra g L) (h0 : Le Γ (Γi c0))
    (hb : ∀ F1, Same F0 F1 → ∀ x c kn kb s', XSs M O HI F1 (g x (Γi c)) s' body { nx := nxJ O HI F1 Γi kn, rt := rt, bk := nxJ O HI F0 Γi kb, ct := nxJ O HI F1 Γi kn } (B x c s' kn kb))
    (hk : ∀ c s', XSs M O HI F0 (Γi c) s' rest { nx := nx, rt := rt, bk := bk, ct := ct } (Pk c s')) (hΓ : ∀ c, (Γi c).length = N.length := by intro _; rfl) (hs : ∀ env x, foldedSetIterable iter env x = pure x := by intro _ _; rfl) :
    XSs M O HI F0 Γ s (.For tg iter body [] pos :: rest) { nx := nx, rt := rt, bk := bk, ct := ct } (wi fun xs s1 => forB B Pk xs c0 s1) := by
  intro σ F H e0 st hp
  refine seqJ (R := nxJ O HI F0 Γi Pk) (fun σ' H' ⟨z, s', F', p, e, st'⟩ => hk z s' σ' F' H' e st' p) ?_
  refine ⟨_, fun j => ps_for (M.pass j) (M.calm j) (rdI_ok j) (rdG_ok j) (rdSs_ok j) (hs _), hi HI _ _ σ F H st (fun xs s1 J F1 H1 c1 e1 st1 jk => ?_) hp⟩
  let I : Nat → L2.St → Hp → Prop := fun i σ H => ∃ c s' F', Same F1 F' ∧ Stt O HI (Γi c) s' σ F' H ∧ forB B Pk (xs.drop i) c s'
  refine ⟨fun i m σ H => m = xs.length - i ∧ i ≤ xs.length ∧ I i σ H, ⟨xs.length, by simp, Nat.zero_le _, c0, s1, F1, Same.refl _, st1.le h0, c1⟩, ?_⟩
  rintro i m σ2 H2 ⟨rfl, hi', c, s', F', e2, st2, fw⟩
  obtain ⟨h1, h2, sa, so, ok⟩ := id st2
  obtain ⟨j1, j2⟩ := jk F' e2 HI _ H2 ok
  by_cases hlt : i < xs.length
  · have hx : xs[i]? = some xs[i] := List.getElem?_eq_getElem hlt
    obtain ⟨jgo, jy⟩ := j1 i _ hx
    rw [List.drop_eq_getElem_cons hlt] at fw
    refine .inr ⟨jgo, nxJ O HI F1 Γi (fun c' s' => forB B Pk (xs.drop (i + 1)) c' s'), fun σ' H' ⟨c', s5, F5, p5, e5, st5⟩ => ?_, fun v H3 hy => ?_⟩
    · exact ⟨xs.length - (i + 1), by omega, rfl, hlt, c', s5, F5, e5, st5, p5⟩
    · obtain ⟨F3, e3, ok3, rv⟩ := jy v H3 hy
      have st3 : Stt O HI (Γi c) s' σ2 F3 H3 := ⟨h1, h2, sa.mono e3, (O s').mono e3 so, ok3⟩
      refine hg.run O HI _ s' σ2 F3 H3 xs[i] v _ (hΓ c) st3 rv fun σ4 l4 o4 st4 => ?_
      exact hb F1 (e0.trans e1) xs[i] c _ _ s' σ4 F3 H3 (e2.trans e3) st4 fw
  · have e : i = xs.length := by omega
    subst e
    rw [List.drop_length] at fw
    exact .inl ⟨j2, c, s', F', fw, e0.trans (e1.trans e2), st2⟩
end
end Sm

set_option Elab.async false
set_option linter.all false
set_option maxRecDepth 100000
set_option maxHeartbeats 4000000
namespace Sm
open PySem PySem.Spec PyProof.Rows L2
section
variable {P : Program} {w : World} {K : PySem.W.Frag} {mg : Str → Option Value} {base : Heap} {N : List Str} {sc : Scope} {fn : Str → Bool} {k : Nat}
variable {M : Fm P w K mg base N sc fn k}
variable {S : Type} {O : S → Res} {Γ : Asrt} {s : S} {α β γ ρ : Type} {ra : RP α} {rb : RP β} {rc : RP γ} {A : ρ → VA}

theorem rdSs_mono {sts : List Stmt} {D D' : Ends} {σ : L2.St} {H : Hp} (h : rdSs M sts D σ H) (h1 : ∀ σ H, D.nx σ H → D'.nx σ H) (h2 : ∀ v H, D.rt v H → D'.rt v H) (h3 : ∀ σ H, D.bk σ H → D'.bk σ H) (h4 : ∀ σ H, D.ct σ H → D'.ct σ H) : rdSs M sts D' σ H := by
  refine ⟨fun D1 σ1 H1 => D1 = D' ∧ rdSs M sts D σ1 H1, fun i => ⟨fun pins s σ H D1 I ⟨e, q⟩ => ?_⟩, rfl, h⟩
  subst e
  refine thn ((rdSs_ok i).run pins s σ H D I q) fun f s' q => ?_
  cases f with
  | next => obtain ⟨σ', H', I', q⟩ := q; exact ⟨σ', H', I', h1 _ _ q⟩
  | brk => obtain ⟨σ', H', I', q⟩ := q; exact ⟨σ', H', I', h3 _ _ q⟩
  | cont => obtain ⟨σ', H', I', q⟩ := q; exact ⟨σ', H', I', h4 _ _ q⟩
  | ret u => obtain ⟨v, σ', H', I', r, q⟩ := q; exact ⟨v, σ', H', I', r, h2 _ _ q⟩
theorem rdE_mono {e : Expr} {σ : L2.St} {H : Hp} {Q Q' : VK} (h : rdE M e σ H Q) (hq : ∀ v H, Q v H → Q' v H) : rdE M e σ H Q' := by
  refine ⟨fun σ1 H1 Q1 => Q1 = Q' ∧ rdE M e σ1 H1 Q, fun i => ⟨fun pins s σ H Q1 I ⟨e, q⟩ => ?_⟩, rfl, h⟩
  subst e
  exact thn ((rdE_ok i).run pins s σ H Q I q) fun u s' ⟨v, H', I', r, q⟩ => ⟨v, H', I', r, hq _ _ q⟩

/-! ### of one of two kinds -/
def pS (ra : RP α) (rb : RP β) : RP (α ⊕ β) := ⟨fun x v F => match x with | .inl a => ra.r a v F | .inr b => rb.r b v F, fun {x v F F'} e h => by cases x with | inl a => exact ra.mono e h | inr b => exact rb.mono e h⟩
theorem xe_toL {e : Expr} {W : (α → S → Prop) → Prop} (h : XE M O Γ s e (fz ra) W) : XE M O Γ s e (fz (pS ra rb)) (fun k => W fun x s' => k (.inl x) s') := by
  intro HI C Q σ F H st hq hc
  refine h HI _ Q σ F H st (fun x s' v F' H' c e sv => ?_) hc
  obtain ⟨r, st'⟩ := sv.fz
  exact hq (.inl x) s' v F' H' c e (st'.val r)
theorem xe_toR {e : Expr} {W : (β → S → Prop) → Prop} (h : XE M O Γ s e (fz rb) W) : XE M O Γ s e (fz (pS ra rb)) (fun k => W fun x s' => k (.inr x) s') := by
  intro HI C Q σ F H st hq hc
  refine h HI _ Q σ F H st (fun x s' v F' H' c e sv => ?_) hc
  obtain ⟨r, st'⟩ := sv.fz
  exact hq (.inr x) s' v F' H' c e (st'.val r)
theorem xe_ofL {e : Expr} {W : (α ⊕ β → S → Prop) → Prop} (h : XE M O Γ s e (fz (pS ra rb)) W) : XE M O Γ s e (fz ra) (fun k => W fun x s' => ∃ y, x = .inl y ∧ k y s') := by
  intro HI C Q σ F H st hq hc
  refine h HI _ Q σ F H st (fun x s' v F' H' c e sv => ?_) hc
  obtain ⟨y, ey, c⟩ := c
  subst ey
  obtain ⟨r, st'⟩ := sv.fz
  exact hq y s' v F' H' c e (st'.val r)
theorem xe_ofR {e : Expr} {W : (α ⊕ β → S → Prop) → Prop} (h : XE M O Γ s e (fz (pS ra rb)) W) : XE M O Γ s e (fz rb) (fun k => W fun x s' => ∃ y, x = .inr y ∧ k y s') := by
  intro HI C Q σ F H st hq hc
  refine h HI _ Q σ F H st (fun x s' v F' H' c e sv => ?_) hc
  obtain ⟨y, ey, c⟩ := c
  subst ey
  obtain ⟨r, st'⟩ := sv.fz
  exact hq y s' v F' H' c e (st'.val r)

/-! ### owned lists in slots -/
theorem set_same {σ : L2.St} {i : Nat} {v : V} (h : σ[i]? = some (some v)) : σ.set i (some v) = σ := by
  refine List.ext_getElem? fun j => ?_
  by_cases e : i = j
  · subst e; rw [List.getElem?_set_self (List.getElem?_eq_some_iff.mp h).1, h]
  · rw [List.getElem?_set_ne e]
theorem Stt.own {HI F H : Hp} {σ : L2.St} {i : Nat} {xs : List α} (h : Stt O HI Γ s σ F H) (e : Γ[i]? = some (some (ol ra xs))) :
    ∃ a vs, σ[i]? = some (some (.ref a)) ∧ H a = some (.lst vs) ∧ All2 (fun x v => ra.r x v F) xs vs ∧ ∀ ys ws, All2 (fun x v => ra.r x v F) ys ws → Stt O HI (Γ.set i (some (ol ra ys))) s σ F (upd H a (.lst ws)) := by
  obtain ⟨h1, h2, b, c, d⟩ := h
  obtain ⟨v, g1, g2, a1, a2, ⟨a, vs, ev, eg, al⟩, back⟩ := b.at e
  subst ev eg
  have d1 := d.perm (h' := (a, .lst vs) :: (g2 ++ h2)) (a2.append_right h2)
  refine ⟨a, vs, a1, (d1.own _ List.mem_cons_self).1, al, fun ys ws al' => ?_⟩
  obtain ⟨h', p, q⟩ := back F (ol ra ys) (.ref a) [(a, .lst ws)] (Same.refl _) ⟨a, ws, rfl, rfl, al'⟩
  rw [set_same a1] at q
  exact ⟨h', h2, q, c, (d1.set (o' := .lst ws)).perm ((p.append_right h2).symm)⟩
theorem Stt.freeze {HI F H : Hp} {σ : L2.St} {i : Nat} {xs : List α} (h : Stt O HI Γ s σ F H) (e : Γ[i]? = some (some (ol ra xs))) :
    ∃ F', Same F F' ∧ Stt O HI (Γ.set i (some (fz (pL K ra) xs))) s σ F' H := by
  obtain ⟨h1, h2, b, c, d⟩ := h
  obtain ⟨v, g1, g2, a1, a2, ⟨a, vs, ev, eg, al⟩, back⟩ := b.at e
  subst ev eg
  have d1 := d.perm (h' := (a, .lst vs) :: (g2 ++ h2)) (a2.append_right h2)
  have e1 : Same F (upd F a (.lst vs)) := same_upd (d1.own _ List.mem_cons_self).2.1
  obtain ⟨h', p, q⟩ := back (upd F a (.lst vs)) (fz (pL K ra) xs) (.ref a) [] e1 ⟨rfl, a, vs, rfl, .inl (.inl upd_same), al.imp fun _ _ q => ra.mono e1 q⟩
  rw [set_same a1] at q
  exact ⟨_, e1, h', h2, q, (O s).mono e1 c, (d1.freeze).perm ((p.append_right h2).symm)⟩
theorem xs_freeze {HI F0 : Hp} {D : Ends} {sts : List Stmt} {Pf : Prop} {xs : List α} (i : Nat) (e : Γ[i]? = some (some (ol ra xs))) (h : XSs M O HI F0 (Γ.set i (some (fz (pL K ra) xs))) s sts D Pf) : XSs M O HI F0 Γ s sts D Pf := by
  intro σ F H e0 st hp
  obtain ⟨F', e1, st'⟩ := st.freeze (K := K) e
  exact h σ F' H (e0.trans e1) st' hp
/-- an owned list's name comes to its last use: it is frozen as it is read -/
theorem xe_varO {i : Nat} {x : Str} {pos : Pos} {xs : List α} (hΓ : Γ[i]? = some (some (ol ra xs))) (hN : N[i]? = some x := by rfl) (hv : Vis sc x := by first | exact Or.inl rfl | exact Or.inr (Or.inl rfl) | exact Or.inr (Or.inr rfl))
    (hd : (x == ("__debug__" : Str)) = false := by decide) (hcd : (x == ("__classdict__" : Str)) = false := by decide) :
    ∀ (HI : Hp) (C : List α → S → Prop) (Q : VK) (σ : L2.St) (F H : Hp), Stt O HI Γ s σ F H →
      (∀ x s' v F' H', C x s' → Same F F' → (pL K ra).r x v F' → Stt O HI (Γ.set i none) s' σ F' H' → Q v H') → C xs s → rdE M (.Name x pos) σ H Q := by
  intro HI C Q σ F H st hq hc
  obtain ⟨F', e1, st'⟩ := st.freeze (K := K) hΓ
  have hi : i < Γ.length := (List.getElem?_eq_some_iff.mp hΓ).1
  obtain ⟨v, e, r⟩ := st'.slot (i := i) (by rw [List.getElem?_set_self hi])
  refine ⟨tVar i, fun j => pe_var (by rw [M.nn]; exact hN) (by rw [M.scp]; exact hv) hd hcd, v, e, hq xs s v F' H hc e1 r ?_⟩
  obtain ⟨h1, h2, b, c, d⟩ := st'
  obtain ⟨h', sub, q⟩ := b.unset (s := σ[i]?.join) i
  rw [List.set_set] at q
  have es : σ.set i (σ[i]?.join) = σ := by rw [e]; exact set_same e
  rw [es] at q
  exact ⟨h', h2, q, c, d.sub (List.Sublist.append_right sub _)⟩
theorem pe_nameO {i : Nat} {x : Str} {pos : Pos} (hN : N[i]? = some x) (hv : Vis sc x) (hd : (x == ("__debug__" : Str)) = false) (hcd : (x == ("__classdict__" : Str)) = false) (j) : PE (M.X j) (.Name x pos) (tVar i) :=
  pe_var (by rw [M.nn]; exact hN) (by rw [M.scp]; exact hv) hd hcd
section
variable {HI F0 : Hp} {D : Ends} {e : Expr} {x : Str} {p1 ap cp pos : Pos} {rest : List Stmt} {xs : List α}
/-- x.append(e) -/
theorem xs_append {W : (α → S → Prop) → Prop} {Pk : α → S → Prop} (i : Nat) (hΓ : Γ[i]? = some (some (ol ra xs))) (he : XE M O Γ s e (fz ra) W) (hk : ∀ y s', XSs M O HI F0 (Γ.set i (some (ol ra (xs ++ [y])))) s' rest D (Pk y s'))
    (hN : N[i]? = some x := by rfl) (hv : Vis sc x := by first | exact Or.inl rfl | exact Or.inr (Or.inl rfl) | exact Or.inr (Or.inr rfl)) (hd : (x == ("__debug__" : Str)) = false := by decide) (hcd : (x == ("__classdict__" : Str)) = false := by decide)
    (hns : NoStar e := by intro _ _; rfl) (hfew : ∀ env, ((backTo cp (starEach [e] env)).all (fun x => !x.1) && (backToKw cp (keywordEach [] env)).all (fun x => x.1.isSome) && decide ([e].length + ([] : List Keyword).length + (if ([] : List Keyword).isEmpty then 0 else 1) < 30)) = true := by intro _; rfl)
    (hline : (ap.endLine == cp.line) = true := by rfl) (hs : ∀ j, swapsWith (.Call (.Attribute (.Name x p1) "append" ap) [e] [] cp) none pos.line (M.X j).env = pure false := by intro _; rfl) :
    XSs M O HI F0 Γ s (.Expr (.Call (.Attribute (.Name x p1) "append" ap) [e] [] cp) pos :: rest) D (W fun y s' => xs.length < sizeLine ∧ Pk y s') := by
  intro σ F H e0 st hp
  refine ⟨_, fun j => pss_cons (ps_expr (by
    have h := pe_bm (X := M.X j) (cpos := cp) PySem.F.plainAttrs_list PySem.F.slot_list_append PySem.F.type_list_append mt_append (pe_nameO (pos := p1) hN hv hd hcd j) (pa_cons (rdE_ok (M := M) j) pa_nil (hns _ _)) rfl (hfew _) hline (hns _ _) rfl
    rw [M.kf j] at h; exact h) (hs j)) (rdSs_ok j), ?_⟩
  obtain ⟨a, vs, ea, eh, al, _⟩ := st.own hΓ
  refine ⟨.ref a, ea, .inl ⟨rfl, vs, SqL.of eh⟩, ?_⟩
  refine he HI _ _ σ F H st (fun y s' u F' H' c e1 sv => ?_) hp
  obtain ⟨ru, st'⟩ := sv.fz
  obtain ⟨a', vs', ea', eh', al', up⟩ := st'.own hΓ
  rw [ea] at ea'; cases ea'
  refine ⟨a, vs', u, rfl, rfl, eh', by rw [← al'.length]; exact c.1, ?_⟩
  exact hk y s' σ F' _ (e0.trans e1) (up _ _ (al'.append ⟨ru, trivial⟩)) c.2
/-- x.extend(e), e a list that is just made -/
theorem xs_extend {W : (List α → S → Prop) → Prop} {Pk : List α → S → Prop} (i : Nat) (hΓ : Γ[i]? = some (some (ol ra xs))) (he : XE M O Γ s e (ol ra) W) (hk : ∀ y s', XSs M O HI F0 (Γ.set i (some (ol ra (xs ++ y)))) s' rest D (Pk y s'))
    (hN : N[i]? = some x := by rfl) (hv : Vis sc x := by first | exact Or.inl rfl | exact Or.inr (Or.inl rfl) | exact Or.inr (Or.inr rfl)) (hd : (x == ("__debug__" : Str)) = false := by decide) (hcd : (x == ("__classdict__" : Str)) = false := by decide)
    (hns : NoStar e := by intro _ _; rfl) (hfew : ∀ env, ((backTo cp (starEach [e] env)).all (fun x => !x.1) && (backToKw cp (keywordEach [] env)).all (fun x => x.1.isSome) && decide ([e].length + ([] : List Keyword).length + (if ([] : List Keyword).isEmpty then 0 else 1) < 30)) = true := by intro _; rfl)
    (hline : (ap.endLine == cp.line) = true := by rfl) (hs : ∀ j, swapsWith (.Call (.Attribute (.Name x p1) "extend" ap) [e] [] cp) none pos.line (M.X j).env = pure false := by intro _; rfl) :
    XSs M O HI F0 Γ s (.Expr (.Call (.Attribute (.Name x p1) "extend" ap) [e] [] cp) pos :: rest) D (W fun y s' => xs.length + y.length ≤ sizeLine ∧ Pk y s') := by
  intro σ F H e0 st hp
  refine ⟨_, fun j => pss_cons (ps_expr (by
    have h := pe_bm (X := M.X j) (cpos := cp) PySem.F.plainAttrs_list PySem.F.slot_list_extend PySem.F.type_list_extend mt_extend (pe_nameO (pos := p1) hN hv hd hcd j) (pa_cons (rdE_ok (M := M) j) pa_nil (hns _ _)) rfl (hfew _) hline (hns _ _) rfl
    rw [M.kf j] at h; exact h) (hs j)) (rdSs_ok j), ?_⟩
  obtain ⟨a, vs, ea, eh, al, _⟩ := st.own hΓ
  refine ⟨.ref a, ea, .inl ⟨rfl, vs, SqL.of eh⟩, ?_⟩
  refine he HI _ _ σ F H st (fun y s' u F' H' c e1 sv => ?_) hp
  have st' := sv.drop
  obtain ⟨hv', h1, h2, ⟨b, ws, eb, ehv, alb⟩, sa, so, ok⟩ := sv
  subst eb ehv
  obtain ⟨a', vs', ea', eh', al', up⟩ := st'.own hΓ
  rw [ea] at ea'; cases ea'
  refine ⟨a, b, vs', ws, rfl, rfl, eh', (ok.own _ List.mem_cons_self).1, by rw [← al'.length, ← alb.length]; exact c.1, ?_⟩
  exact hk y s' σ F' _ (e0.trans e1) (up _ _ (al'.append alb)) c.2
end

/-! ### a def's promise, its calls -/
def SpF {αs S ρ : Type} (ad : Type) (PA : ad → αs → List VA) (O : ad → S → Res) (A : ρ → VA) (m : αs → S → (ρ → S → Prop) → Prop) : Sp := fun vs H Q _ =>
  ∃ (a : ad) (x : αs) (s : S) (F : Hp) (HI : Hp) (h2 : HL), AllV (PA a x) vs F ∧ (O a s).p F h2 ∧ Ok F h2 HI H ∧
    ∃ C : ρ → S → Prop, (∀ y s', C y s' → ∀ v F' hv h2' H', Same F F' → (A y).p v F' hv → (O a s').p F' h2' → Ok F' (hv ++ h2') HI H' → Q v H') ∧ m x s C
theorem AllV.length {F : Hp} : ∀ {As : List VA} {vs : List V}, AllV As vs F → As.length = vs.length
  | [], [], _ => rfl
  | _ :: _, _ :: _, ⟨_, b⟩ => congrArg (· + 1) (AllV.length b)
theorem Sat.nones {F : Hp} : ∀ n : Nat, Sat (List.replicate n none) (List.replicate n none) F []
  | 0 => rfl
  | n + 1 => Sat.nones n
theorem Sat.start {F : Hp} (n : Nat) : ∀ {As : List VA} {vs : List V}, AllV As vs F → Sat (As.map some ++ List.replicate n none) (vs.map some ++ List.replicate n none) F []
  | [], [], _ => Sat.nones n
  | A :: As, v :: vs, ⟨a, b⟩ => ⟨v, [], [], rfl, rfl, a, Sat.start n b⟩
structure Has (P : Program) (w : World) (K : PySem.W.Frag) (mg : Str → Option Value) (base : Heap) (x : Str) (j : Nat) (ps : List Str) (sp : Sp) : Prop where
  ex : ∃ f fd, mg x = some (.ref f) ∧ PySem.W.keepIn K (.ref f) = true ∧ Binds K fd ps [] ∧ FnOk P w K mg base CX0 j f fd ps sp
theorem fn_ok {x qual : Str} {st : Stmt} {f : Addr} {fd : FuncData} {ps : List Str} {αs ρ ad : Type} {S : Type} {PA : ad → αs → List VA} {O : ad → S → Res} {A : ρ → VA} {m : αs → S → (ρ → S → Prop) → Prop} (F : Fun K x qual st f fd) (Sc : FnScope N ps (defScope st))
    (hlen : ∀ a x, (PA a x).length = ps.length)
    (body : ∀ (M : Fm P w K mg base N (defScope st) (fun _ => true) k) (a : ad) (x : αs) (s : S) (HI F0 : Hp) (R : ρ → S → Prop), XSs M (O a) HI F0 ((PA a x).map some ++ List.replicate (N.length - ps.length) none) s (defBody st) { nx := fun _ H' => rtJ (O a) HI F0 A R .non H', rt := rtJ (O a) HI F0 A R, bk := fun _ _ => False, ct := fun _ _ => False } (m x s R)) :
    FnOk P w K mg base CX0 (k + 1) f fd ps (SpF ad PA O A m) := by
  refine F.ok Sc (fun vs H Q E h => ?_) (fun cdv A' outer s H vs Q E hr h => ?_)
  · obtain ⟨a, x, s, F, HI, h2, av, _⟩ := h
    rw [← av.length]; exact hlen a x
  · obtain ⟨a, x, s', F', HI, h2, av, ho, ok, C, hC, hm⟩ := h
    let M : Fm P w K mg base N (defScope st) (fun _ => true) k := { ι := Unit, X := fun _ => (cxOf CX0 P w K mg base N qual (defScope st) f cdv A' outer s H E).nox, prog := fun _ => rfl, wd := fun _ => rfl, kf := fun _ => rfl, mgl := fun _ => rfl, bas := fun _ => rfl, nn := fun _ => rfl, scp := fun _ => rfl, calm := fun _ => rfl, room := fun _ => hr, pass := fun _ => PassesOwn.never, fnl := fun _ _ _ => rfl, nd := Sc.nd }
    refine ⟨rdSs M (defBody st), rdSs_ok (M := M) (), ?_⟩
    have hl : (PA a x).length = vs.length := av.length
    have fin : ∀ v H', rtJ (O a) HI F' A C v H' → Q v H' := fun v H' ⟨y, s5, F5, r5, e5, hv, h1, h2, q1, q2, q3, q4⟩ => by
      have q2 : h1 = [] := q2
      subst q2
      exact hC y s5 r5 v F5 hv h2 H' e5 q1 q3 q4
    refine rdSs_mono (body M a x s' HI F' _ (L2.start N vs) F' H (Same.refl _) ⟨[], h2, ?_, ho, ok⟩ hm) (fun _ H' q => fin _ _ q) fin (fun _ _ q => q.elim) (fun _ _ q => q.elim)
    unfold L2.start
    rw [← hl, hlen a x]
    exact Sat.start _ av
/-- a resource within a greater one -/
structure Foc {S S1 : Type} (O : S → Res) (O1 : S1 → Res) (get : S → S1) (put : S → S1 → S) : Prop where
  split : ∀ {s F h}, (O s).p F h → ∃ g1 g2 : HL, h.Perm (g1 ++ g2) ∧ (O1 (get s)).p F g1 ∧ ∀ F' s1 g1', Same F F' → (O1 s1).p F' g1' → ∃ h', h'.Perm (g1' ++ g2) ∧ (O (put s s1)).p F' h'
theorem foc_id : Foc O O (fun s => s) (fun _ s => s) := ⟨fun {s F h} q => ⟨h, [], by rw [List.append_nil], q, fun F' s1 g1' e q' => ⟨g1', by rw [List.append_nil], q'⟩⟩⟩
theorem foc_emp : Foc O (fun _ : Unit => emp) (fun _ => ()) (fun s _ => s) := ⟨fun {s F h} q => ⟨[], h, .refl _, rfl, fun F' s1 g1' e q' => by
  have q' : g1' = [] := q'
  subst q'
  exact ⟨h, .refl _, (O s).mono e q⟩⟩⟩
theorem xa_nil : XA M O Γ s [] (fun _ : Unit => []) (fun k => k () s) := by
  intro HI C Q σ F H st hq hc
  exact ⟨_, fun i => pa_nil, hq () s [] F H hc (Same.refl _) trivial st⟩
theorem xa_cons {e : Expr} {es : List Expr} {B : ρ → List VA} {wa : (α → S → Prop) → Prop} {wr : S → (ρ → S → Prop) → Prop} (ha : XE M O Γ s e (fz ra) wa) (hr : ∀ s', XA M O Γ s' es B (wr s')) (hs : NoStar e := by intro _ _; rfl) :
    XA M O Γ s (e :: es) (fun x : α × ρ => fz ra x.1 :: B x.2) (fun k => wa fun x s1 => wr s1 fun y s2 => k (x, y) s2) := by
  intro HI C Q σ F H st hq hc
  refine ⟨_, fun i => pa_cons (rdE_ok i) (rdA_ok i) (hs _ _), ha HI _ _ σ F H st (fun x s1 u F1 H1 c1 e1 sv1 => ?_) hc⟩
  obtain ⟨rx, st1⟩ := sv1.fz
  refine hr s1 HI _ _ σ F1 H1 st1 (fun y s2 vs F2 H2 c2 e2 al st2 => ?_) c1
  exact hq (x, y) s2 (u :: vs) F2 H2 c2 (e1.trans e2) ⟨⟨rfl, ra.mono e2 rx⟩, al⟩ st2
/-- a thing that stands at a known address is handed on -/
theorem xa_adr {x : Str} {p : Pos} {es : List Expr} {B : ρ → List VA} {wr : S → (ρ → S → Prop) → Prop} {i : Nat} {a : Addr} (hΓ : Γ[i]? = some (some (fz pA a))) (hr : ∀ s', XA M O Γ s' es B (wr s')) (hN : N[i]? = some x := by rfl) (hv : Vis sc x := by first | exact Or.inl rfl | exact Or.inr (Or.inl rfl) | exact Or.inr (Or.inr rfl))
    (hd : (x == ("__debug__" : Str)) = false := by decide) (hcd : (x == ("__classdict__" : Str)) = false := by decide) :
    XA M O Γ s (.Name x p :: es) (fun y => fz pA a :: B y) (wr s) := by
  intro HI C Q σ F H st hq hc
  obtain ⟨v, e, r⟩ := st.slot hΓ
  refine ⟨_, fun i => pa_cons (pe_nameO hN hv hd hcd i) (rdA_ok i) rfl, v, e, ?_⟩
  exact hr s HI C _ σ F H st (fun y s2 vs F2 H2 c2 e2 al st2 => hq y s2 (v :: vs) F2 H2 c2 e2 ⟨⟨rfl, r⟩, al⟩ st2) hc
theorem xe_call {x : Str} {j : Nat} {ps : List Str} {αs ad S1 : Type} {PA : ad → αs → List VA} {O1 : ad → S1 → Res} {m : αs → S1 → (ρ → S1 → Prop) → Prop} {p pos : Pos} {e : Expr} {es : List Expr} {A' : αs → List VA} {wa : (αs → S → Prop) → Prop} {get : S → S1} {put : S → S1 → S}
    (h : Has P w K mg base x j ps (SpF ad PA O1 A m)) (a : ad) (foc : Foc O (O1 a) get put) (ha : XA M O Γ s (e :: es) A' wa) (hj : j ≤ k := by first | decide | omega) (hg : GlN sc x := by rfl) (hA : ∀ z, A' z = PA a z := by intro _; rfl)
    (hs : NoStar e := by intro _ _; rfl) (hpl : ∀ env, (backTo pos (starEach es env)).any (·.1) = false := by intro _; rfl) (hdb : (x == ("__debug__" : Str)) = false := by decide) :
    XE M O Γ s (.Call (.Name x p) (e :: es) [] pos) A (fun k => wa fun z s1 => m z (get s1) fun y s2 => k y (put s1 s2)) := by
  intro HI C Q σ F H st hq hc
  obtain ⟨f, fd, e1, e2, e3, e4⟩ := h.ex
  refine ⟨_, fun i => pe_call (sp := SpF ad PA O1 A m) (dvs := []) (ds := []) (E := E0) (by rw [M.prog, M.wd, M.kf, M.mgl, M.bas]; exact e4) ((M.room i).mono hj) (Gl.of hg i) (by rw [M.mgl]; exact e1) (by rw [M.kf]; exact e2) (by rw [M.kf]; exact e3) .nil pass0 (rdA_ok i) hdb (hs _ _) (hpl _), ?_⟩
  refine ha HI _ _ σ F H st (fun z s1 vs F1 H1 c1 ex al st1 => ?_) hc
  rw [hA] at al
  obtain ⟨h1, h2, sa, so, ok⟩ := st1
  obtain ⟨g1, g2, pm, so1, back⟩ := foc.split so
  have okp : Ok F1 (g1 ++ (g2 ++ h1)) HI H1 := ok.perm (by
    refine (List.perm_append_comm).trans ?_
    refine (pm.append_right h1).trans ?_
    rw [List.append_assoc])
  rw [List.append_nil]
  refine ⟨a, z, get s1, F1, Sm.hide HI (g2 ++ h1), g1, al, so1, okp.hide, _, fun y s2 c v F' hv h2' H' e3 av o2 ok2 => ?_, c1⟩
  obtain ⟨h', p', q'⟩ := back F' s2 h2' e3 o2
  refine hq y (put s1 s2) v F' H' c (ex.trans e3) ⟨hv, h1, h', av, sa.mono e3, q', ?_⟩
  have ok3 := okp.unhide ok2
  refine ok3.perm ?_
  rw [List.append_assoc]
  refine List.Perm.append_left hv ?_
  refine List.Perm.trans ?_ List.perm_append_comm
  refine List.Perm.trans ?_ (p'.symm.append_right h1)
  rw [List.append_assoc]
end
end Sm

set_option Elab.async false
set_option linter.all false
set_option maxRecDepth 100000
set_option maxHeartbeats 4000000
namespace Sm
open PySem PySem.Spec PyProof.Rows L2
/-- xs[lo:hi] -/
def cutG {α : Type} (xs : List α) (lo hi : Option Int) : List α := (xs.drop (HT.sIx xs.length 0 lo)).take (HT.sIx xs.length xs.length hi - HT.sIx xs.length 0 lo)
theorem All2.cut {α : Type} {p : α → V → Prop} {xs : List α} {vs : List V} (h : All2 p xs vs) (lo hi : Option Int) : All2 p (cutG xs lo hi) (cutV vs lo hi) := by
  unfold cutG cutV
  rw [← h.length]
  exact (h.drop _).take _
theorem okT.cut {x : Text} (h : okT x) (lo hi : Option Int) : okT (cutG x lo hi) := fun c hc => h c (List.mem_of_mem_drop (List.mem_of_mem_take hc))
/-- sep.join(texts) -/
def joinT (S : Text) (ys : List Text) : Text := TL.joinL S ys
theorem joinT_ok {S : Text} (hS : okT S) : ∀ {ys : List Text}, (∀ y ∈ ys, okT y) → okT (joinT S ys)
  | [], _ => fun c hc => by cases hc
  | [y], h => h y List.mem_cons_self
  | y :: z :: r, h => (h y List.mem_cons_self).append (hS.append (joinT_ok hS (ys := z :: r) fun t ht => h t (List.mem_cons_of_mem _ ht)))
section
variable {P : Program} {w : World} {K : PySem.W.Frag} {mg : Str → Option Value} {base : Heap} {N : List Str} {sc : Scope} {fn : Str → Bool} {k : Nat}
variable {M : Fm P w K mg base N sc fn k}
variable {S : Type} {O : S → Res} {Γ : Asrt} {s : S} {α β γ ρ : Type} {ra : RP α} {rb : RP β} {rc : RP γ} {A : ρ → VA}

/-! ### in, not in -/
/-- things of this kind are told apart as flat values -/
structure Flt (r : RP α) [DecidableEq α] : Prop where
  flat : ∀ {x v F}, r.r x v F → flatV v = true
  eq : ∀ {x y u v F}, r.r x u F → r.r y v F → eqV u v = decide (x = y)
theorem fT : Flt pT := ⟨fun h => by rw [h.1]; rfl, fun {x y u v F} h1 h2 => by
  rw [h1.1, h2.1]
  show (_ == _) = _
  rw [Bool.eq_iff_iff]; simp⟩
theorem fI : Flt pI := ⟨fun {x v F} h => by rw [show v = .int x from h]; rfl, fun {x y u v F} h1 h2 => by
  rw [show u = .int x from h1, show v = .int y from h2]
  exact Bool.beq_eq_decide_eq _ _⟩
theorem Flt.all [DecidableEq α] (f : Flt ra) {F : Hp} : ∀ {xs : List α} {vs : List V}, All2 (fun x v => ra.r x v F) xs vs → vs.all flatV = true
  | [], [], _ => rfl
  | _ :: _, _ :: _, ⟨a, b⟩ => by rw [List.all_cons, f.flat a, f.all b]; rfl
theorem Flt.inV [DecidableEq α] (f : Flt ra) {F : Hp} {x : α} {u : V} (h : ra.r x u F) : ∀ {xs : List α} {vs : List V}, All2 (fun x v => ra.r x v F) xs vs → L2.inV u vs = decide (x ∈ xs)
  | [], [], _ => by simp [L2.inV]
  | y :: xs, v :: vs, ⟨a, b⟩ => by
    have ih := f.inV h b
    unfold L2.inV at ih ⊢
    rw [List.any_cons, ih, f.eq a h, Bool.eq_iff_iff]
    simp only [Bool.or_eq_true, decide_eq_true_eq, List.mem_cons]
    exact ⟨fun q => q.imp Eq.symm id, fun q => q.imp Eq.symm id⟩
theorem o_inU [DecidableEq α] (f : Flt ra) : Op2 (rIn K false) ra (pU K ra) (fz pB) (fun x xs k => k (memB x xs)) :=
  fun O HI Γ s σ F H x xs u v C Q st rx ⟨a, vs, h1, h2, h3⟩ hq hc => ⟨a, vs, h1, .inr (SqT.mono st.ok h2), f.flat rx, f.all h3, by rw [f.inV rx h3]; exact hq _ _ F H hc (Same.refl _) (st.val rfl)⟩
theorem o_inL [DecidableEq α] (f : Flt ra) : Op2 (rIn K false) ra (pL K ra) (fz pB) (fun x xs k => k (memB x xs)) :=
  fun O HI Γ s σ F H x xs u v C Q st rx ⟨a, vs, h1, h2, h3⟩ hq hc => ⟨a, vs, h1, .inl (SqL.mono st.ok h2), f.flat rx, f.all h3, by rw [f.inV rx h3]; exact hq _ _ F H hc (Same.refl _) (st.val rfl)⟩
theorem o_ninU [DecidableEq α] (f : Flt ra) : Op2 (rIn K true) ra (pU K ra) (fz pB) (fun x xs k => k (!memB x xs)) :=
  fun O HI Γ s σ F H x xs u v C Q st rx ⟨a, vs, h1, h2, h3⟩ hq hc => ⟨a, vs, h1, .inr (SqT.mono st.ok h2), f.flat rx, f.all h3, by rw [f.inV rx h3]; exact hq _ _ F H hc (Same.refl _) (st.val rfl)⟩
theorem o_ninL [DecidableEq α] (f : Flt ra) : Op2 (rIn K true) ra (pL K ra) (fz pB) (fun x xs k => k (!memB x xs)) :=
  fun O HI Γ s σ F H x xs u v C Q st rx ⟨a, vs, h1, h2, h3⟩ hq hc => ⟨a, vs, h1, .inl (SqL.mono st.ok h2), f.flat rx, f.all h3, by rw [f.inV rx h3]; exact hq _ _ F H hc (Same.refl _) (st.val rfl)⟩
section
variable [DecidableEq α] {a b : Expr} {wa : (α → S → Prop) → Prop} {wb : S → (List α → S → Prop) → Prop}
theorem xc_inU (f : Flt ra) (ha : XE M O Γ s a (fz ra) wa) (hb : ∀ s', XE M O Γ s' b (fz (pU K ra)) (wb s')) : XC M O Γ s .In a b (fun k => wa fun x s1 => wb s1 fun y s2 => k (memB x y) s2) :=
  xc_op (fun i => by have h := op_in_seq (X := M.X i); rw [M.kf i] at h; exact h) (o_inU f) ha hb
theorem xc_inL (f : Flt ra) (ha : XE M O Γ s a (fz ra) wa) (hb : ∀ s', XE M O Γ s' b (fz (pL K ra)) (wb s')) : XC M O Γ s .In a b (fun k => wa fun x s1 => wb s1 fun y s2 => k (memB x y) s2) :=
  xc_op (fun i => by have h := op_in_seq (X := M.X i); rw [M.kf i] at h; exact h) (o_inL f) ha hb
theorem xc_ninU (f : Flt ra) (ha : XE M O Γ s a (fz ra) wa) (hb : ∀ s', XE M O Γ s' b (fz (pU K ra)) (wb s')) : XC M O Γ s .NotIn a b (fun k => wa fun x s1 => wb s1 fun y s2 => k (!memB x y) s2) :=
  xc_op (fun i => by have h := op_notIn_seq (X := M.X i); rw [M.kf i] at h; exact h) (o_ninU f) ha hb
theorem xc_ninL (f : Flt ra) (ha : XE M O Γ s a (fz ra) wa) (hb : ∀ s', XE M O Γ s' b (fz (pL K ra)) (wb s')) : XC M O Γ s .NotIn a b (fun k => wa fun x s1 => wb s1 fun y s2 => k (!memB x y) s2) :=
  xc_op (fun i => by have h := op_notIn_seq (X := M.X i); rw [M.kf i] at h; exact h) (o_ninL f) ha hb
end
/-- one text within another -/
def inT (x y : Text) : Bool := !(Builtin.Str.occurrences ⟨y.toArray⟩ ⟨x.toArray⟩ 0 y.length 1).isEmpty
theorem inT_one (c : Nat) (y : Text) : inT [c] y = decide (c ∈ y) := by
  have h := PySem.StrLaws.found_one ⟨y.toArray⟩ c
  have e : (⟨y.toArray⟩ : Str).length = y.length := by simp [Str.length]
  rw [e] at h
  simpa [inT] using h
section
variable {a b : Expr} {wa : (Text → S → Prop) → Prop} {wb : S → (Text → S → Prop) → Prop} (ha : XE M O Γ s a (fz pT) wa) (hb : ∀ s', XE M O Γ s' b (fz pT) (wb s'))
include ha hb
theorem xc_inT : XC M O Γ s .In a b (fun k => wa fun x s1 => wb s1 fun y s2 => k (inT x y) s2) :=
  xc_op (ra := pT) (rb := pT) (fun i => op_in_str) (fun O HI Γ s σ F H x y u v C Q st rx ry hq (hc : C (inT x y)) => ⟨⟨x.toArray⟩, ⟨y.toArray⟩, rx.1, ry.1, by
    have e : (⟨y.toArray⟩ : Str).length = y.length := by simp [Str.length]
    rw [e]; exact hq _ _ F H hc (Same.refl _) (st.val rfl)⟩) ha hb
theorem xc_ninT : XC M O Γ s .NotIn a b (fun k => wa fun x s1 => wb s1 fun y s2 => k (!inT x y) s2) :=
  xc_op (ra := pT) (rb := pT) (fun i => op_notin_str) (fun O HI Γ s σ F H x y u v C Q st rx ry hq (hc : C (!inT x y)) => ⟨⟨x.toArray⟩, ⟨y.toArray⟩, rx.1, ry.1, by
    have e : (⟨y.toArray⟩ : Str).length = y.length := by simp [Str.length]
    rw [e]; exact hq _ _ F H hc (Same.refl _) (st.val rfl)⟩) ha hb
end
/-- is None, is not None -/
theorem xc_isN {a b : Expr} {wa : (Option α → S → Prop) → Prop} {wb : S → (Unit → S → Prop) → Prop} (ha : XE M O Γ s a (fz (pO ra)) wa) (hb : ∀ s', XE M O Γ s' b (fz pN) (wb s')) : XC M O Γ s .Is a b (fun k => wa fun x s1 => wb s1 fun _ s2 => k x.isNone s2) :=
  xc_op (fun i => op_isN) (fun O HI Γ s σ F H x y u v C Q st rx ry hq (hc : C x.isNone) => ⟨ry, hq x.isNone _ F H hc (Same.refl _) (st.val (by
    show V.bl (decide (u = .non)) = V.bl x.isNone
    cases x with
    | none => rw [show u = .non from rx]; rfl
    | some z => rw [decide_eq_false rx.1]; rfl))⟩) ha hb
theorem xc_notN {a b : Expr} {wa : (Option α → S → Prop) → Prop} {wb : S → (Unit → S → Prop) → Prop} (ha : XE M O Γ s a (fz (pO ra)) wa) (hb : ∀ s', XE M O Γ s' b (fz pN) (wb s')) : XC M O Γ s .IsNot a b (fun k => wa fun x s1 => wb s1 fun _ s2 => k x.isSome s2) :=
  xc_op (fun i => op_notN) (fun O HI Γ s σ F H x y u v C Q st rx ry hq (hc : C x.isSome) => ⟨ry, hq x.isSome _ F H hc (Same.refl _) (st.val (by
    show V.bl (!decide (u = .non)) = V.bl x.isSome
    cases x with
    | none => rw [show u = .non from rx]; rfl
    | some z => rw [decide_eq_false rx.1]; rfl))⟩) ha hb

/-! ### texts' methods -/
theorem xe_m1T {id : String} {name : Str} {ap pos : Pos} {o e : Expr} {r : V → List V → Hp → VK → Prop} {Wo : Text → β → (ρ → Prop) → Prop} {wa : (Text → S → Prop) → Prop} {wb : S → (β → S → Prop) → Prop} (slot : Slot "str" name id) (ty : typeOf (.builtin id) = pure (.type "method_descriptor")) (rule : ∀ i, MtR (M.X i) id r)
    (hr : Op2 (fun u v => r u [v]) pT rb A Wo) (ha : XE M O Γ s o (fz pT) wa) (hb : ∀ s', XE M O Γ s' e (fz rb) (wb s')) (hs : NoStar e := by intro _ _; rfl) (hbase : ∀ env, attributeBase o name env (eval o env) = eval o env := by intro _; rfl) (hline : (ap.endLine == pos.line) = true := by rfl) :
    XE M O Γ s (.Call (.Attribute o name ap) [e] [] pos) A (fun k => wa fun x s1 => wb s1 fun y s2 => Wo x y fun z => k z s2) := by
  intro HI C Q σ F H st hq hc
  refine ⟨_, fun i => pe_m1 slot ty (rule i) (rdE_ok i) (rdE_ok i) (hs _ _) (hbase _) hline, ?_⟩
  refine ha HI _ _ σ F H st (fun x s1 u F1 H1 c1 e1 sv1 => ?_) hc
  obtain ⟨rx, st1⟩ := sv1.fz
  refine ⟨⟨_, rx.1⟩, hb s1 HI _ _ σ F1 H1 st1 (fun y s2 v F2 H2 c2 e2 sv2 => ?_) c1⟩
  obtain ⟨ry, st2⟩ := sv2.fz
  exact hr O HI Γ s2 σ F2 H2 x y u v _ Q st2 rx ry (fun z v' F3 H3 c3 e3 sv => hq z s2 v' F3 H3 c3 ((e1.trans e2).trans e3) sv) c2
def cntT (x y : Text) : Int := Txt.count ⟨x.toArray⟩ ⟨y.toArray⟩
theorem cntT_one (x : Text) (c : Nat) : cntT x [c] = (x.count c : Int) := by
  unfold cntT
  have h := PyProof.Rows.count_cnt ⟨x.toArray⟩ c
  rw [show (⟨[c].toArray⟩ : Str) = ⟨#[c]⟩ from rfl, h]
  show cnt c x.toArray.toList = _
  rw [List.toList_toArray]
  clear h
  induction x with
  | nil => rfl
  | cons a r ih =>
    rw [cnt_cons, ih, List.count_cons]
    by_cases e : a = c
    · subst e; simp; omega
    · have e2 : (a == c) = false := beq_eq_false_iff_ne.mpr e
      simp [e]
section
variable {ap pos : Pos} {o e : Expr}
theorem xe_count {wa : (Text → S → Prop) → Prop} {wb : S → (Text → S → Prop) → Prop} (ha : XE M O Γ s o (fz pT) wa) (hb : ∀ s', XE M O Γ s' e (fz pT) (wb s')) (hs : NoStar e := by intro _ _; rfl) (hbase : ∀ env, attributeBase o "count" env (eval o env) = eval o env := by intro _; rfl) (hline : (ap.endLine == pos.line) = true := by rfl) :
    XE M O Γ s (.Call (.Attribute o "count" ap) [e] [] pos) (fz pI) (fun k => wa fun x s1 => wb s1 fun y s2 => k (cntT x y) s2) :=
  xe_m1T PySem.F.slot_str_count PySem.F.type_str_count (fun i => mt_count) (fun O HI Γ s σ F H x y u v C Q st rx ry hq (hc : C (cntT x y)) => ⟨⟨x.toArray⟩, ⟨y.toArray⟩, rx.1, by rw [ry.1], hq _ _ F H hc (Same.refl _) (st.val rfl)⟩) ha hb hs hbase hline
theorem strs_of {F : Hp} : ∀ {ys : List Text} {vs : List V}, All2 (fun x v => pT.r x v F) ys vs → vs = (ys.map fun y => (⟨y.toArray⟩ : Str)).map V.str ∧ ∀ y ∈ ys, okT y
  | [], [], _ => ⟨rfl, fun _ h => by cases h⟩
  | y :: ys, v :: vs, ⟨a, b⟩ => by
    obtain ⟨h1, h2⟩ := strs_of b
    refine ⟨by rw [List.map_cons, List.map_cons, ← h1, a.1], fun z hz => ?_⟩
    rcases List.mem_cons.mp hz with e | hz
    · subst e; exact a.2
    · exact h2 z hz
theorem join_len (S : Text) (ys : List Text) : ((ys.map fun y => (⟨y.toArray⟩ : Str)).map (·.length)).sum = (ys.map (·.length)).sum := by
  rw [List.map_map]
  rfl
theorem o_join {S' : Text} {ys : List Text} {u v : V} {S : Type} {O : S → Res} {HI : Hp} {Γ : Asrt} {s : S} {σ : L2.St} {F H : Hp} {C : Text → Prop} {Q : VK} (st : Stt O HI Γ s σ F H) (rx : pT.r S' u F) {vs : List V} {p : Addr} (hv : v = .ref p) (hp : SqL K H p vs ∨ SqT K H p vs) (al : All2 (fun x v => pT.r x v F) ys vs)
    (hq : ∀ z v' F' H', C z → Same F F' → SttV O HI Γ s σ F' H' (fz pT z) v' → Q v' H') (hc : (ys.map (·.length)).sum + ys.length * S'.length ≤ 16777216 ∧ C (joinT S' ys)) :
    ∃ a p, ∃ ys : List Str, u = .str a ∧ [v] = [.ref p] ∧ (SqL K H p (ys.map V.str) ∨ SqT K H p (ys.map V.str)) ∧ (ys.map (·.length)).sum + ys.length * a.length ≤ 16777216 ∧ Q (.str (Txt.join a ys)) H := by
  obtain ⟨h1, h2⟩ := strs_of al
  refine ⟨⟨S'.toArray⟩, p, ys.map fun y => (⟨y.toArray⟩ : Str), rx.1, by rw [hv], by rw [← h1]; exact hp, ?_, ?_⟩
  · rw [join_len S', List.length_map]
    have e : (⟨S'.toArray⟩ : Str).length = S'.length := by simp [Str.length]
    rw [e]; exact hc.1
  · refine hq _ _ F H hc.2 (Same.refl _) (st.val ⟨?_, joinT_ok rx.2 h2⟩)
    show V.str _ = V.str _
    congr 1
    refine TL.ext_tl ?_
    rw [TL.join_eq, TL.tl_join]
    show TL.joinL _ _ = joinT S' ys
    unfold joinT
    rw [List.map_map]
    congr 1
    rw [show (TL.tl ∘ fun (y : Text) => (⟨y.toArray⟩ : Str)) = id from funext fun y => List.toList_toArray, List.map_id]
theorem xe_joinL {wa : (Text → S → Prop) → Prop} {wb : S → (List Text → S → Prop) → Prop} (ha : XE M O Γ s o (fz pT) wa) (hb : ∀ s', XE M O Γ s' e (fz (pL K pT)) (wb s')) (hs : NoStar e := by intro _ _; rfl) (hbase : ∀ env, attributeBase o "join" env (eval o env) = eval o env := by intro _; rfl) (hline : (ap.endLine == pos.line) = true := by rfl) :
    XE M O Γ s (.Call (.Attribute o "join" ap) [e] [] pos) (fz pT) (fun k => wa fun x s1 => wb s1 fun y s2 => (y.map (·.length)).sum + y.length * x.length ≤ 16777216 ∧ k (joinT x y) s2) :=
  xe_m1T PySem.F.slot_str_join PySem.F.type_str_join (fun i => by have h := mt_join (X := M.X i); rw [M.kf i] at h; exact h) (fun O HI Γ s σ F H x y u v C Q st rx ⟨a, vs, h1, h2, h3⟩ hq hc => o_join st rx h1 (.inl (SqL.mono st.ok h2)) h3 hq hc) ha hb hs hbase hline
theorem xe_joinU {wa : (Text → S → Prop) → Prop} {wb : S → (List Text → S → Prop) → Prop} (ha : XE M O Γ s o (fz pT) wa) (hb : ∀ s', XE M O Γ s' e (fz (pU K pT)) (wb s')) (hs : NoStar e := by intro _ _; rfl) (hbase : ∀ env, attributeBase o "join" env (eval o env) = eval o env := by intro _; rfl) (hline : (ap.endLine == pos.line) = true := by rfl) :
    XE M O Γ s (.Call (.Attribute o "join" ap) [e] [] pos) (fz pT) (fun k => wa fun x s1 => wb s1 fun y s2 => (y.map (·.length)).sum + y.length * x.length ≤ 16777216 ∧ k (joinT x y) s2) :=
  xe_m1T PySem.F.slot_str_join PySem.F.type_str_join (fun i => by have h := mt_join (X := M.X i); rw [M.kf i] at h; exact h) (fun O HI Γ s σ F H x y u v C Q st rx ⟨a, vs, h1, h2, h3⟩ hq hc => o_join st rx h1 (.inr (SqT.mono st.ok h2)) h3 hq hc) ha hb hs hbase hline
end

/-! ### slices -/
def XO (M : Fm P w K mg base N sc fn k) (O : S → Res) (Γ : Asrt) (s : S) (e : Option Expr) (W : (Option Int → S → Prop) → Prop) : Prop :=
  ∀ (HI : Hp) (C : Option Int → S → Prop) (Q : Option Int → Hp → Prop) (σ : L2.St) (F H : Hp), Stt O HI Γ s σ F H →
    (∀ x s' F' H', C x s' → Same F F' → Stt O HI Γ s' σ F' H' → Q x H') → W C → rdO M e σ H Q
theorem xo_none : XO M O Γ s none (fun k => k none s) := by
  intro HI C Q σ F H st hq hc
  exact ⟨_, fun i => po_none, hq none s F H hc (Same.refl _) st⟩
theorem xo_some {e : Expr} {W : (Int → S → Prop) → Prop} (h : XE M O Γ s e (fz pI) W) : XO M O Γ s (some e) (fun k => W fun x s' => k (some x) s') := by
  intro HI C Q σ F H st hq hc
  refine ⟨_, fun i => po_some (rdE_ok i), h HI _ _ σ F H st (fun x s' v F' H' c e sv => ?_) hc⟩
  obtain ⟨r, st'⟩ := sv.fz
  exact ⟨x, r, hq (some x) s' F' H' c e st'⟩
section
variable {e : Expr} {lo hi : Option Expr} {p2 pos : Pos} {wl wh : S → (Option Int → S → Prop) → Prop}
theorem xe_cutT {wa : (Text → S → Prop) → Prop} (ha : XE M O Γ s e (fz pT) wa) (hl : ∀ s', XO M O Γ s' lo (wl s')) (hh : ∀ s', XO M O Γ s' hi (wh s')) :
    XE M O Γ s (.Subscript e (.Slice lo hi none p2) pos) (fz pT) (fun k => wa fun x s1 => wl s1 fun l s2 => wh s2 fun h s3 => x.length ≤ sizeLine ∧ k (cutG x l h) s3) := by
  intro HI C Q σ F H st hq hc
  refine ⟨_, fun i => pe_slice sl_str (rdE_ok i) (rdO_ok i) (rdO_ok i), ha HI _ _ σ F H st (fun x s1 u F1 H1 c1 e1 sv1 => ?_) hc⟩
  obtain ⟨rx, st1⟩ := sv1.fz
  refine hl s1 HI _ _ σ F1 H1 st1 (fun l s2 F2 H2 c2 e2 st2 => hh s2 HI _ _ σ F2 H2 st2 (fun h s3 F3 H3 c3 e3 st3 => ?_) c2) c1
  refine ⟨⟨x.toArray⟩, rx.1, by simpa [Str.length] using c3.1, hq _ s3 _ F3 H3 c3.2 (e1.trans (e2.trans e3)) (st3.val ⟨?_, rx.2.cut l h⟩)⟩
  show V.str _ = V.str _
  unfold cutS cutG
  simp [Str.length]
theorem xe_cutL {wa : (List α → S → Prop) → Prop} (ha : XE M O Γ s e (fz (pL K ra)) wa) (hl : ∀ s', XO M O Γ s' lo (wl s')) (hh : ∀ s', XO M O Γ s' hi (wh s')) :
    XE M O Γ s (.Subscript e (.Slice lo hi none p2) pos) (ol ra) (fun k => wa fun x s1 => wl s1 fun l s2 => wh s2 fun h s3 => k (cutG x l h) s3) := by
  intro HI C Q σ F H st hq hc
  refine ⟨tSl (rSlL K) (rdE M e) (rdO M lo) (rdO M hi), fun i => (by have h := pe_slice (X := M.X i) (pos := pos) (p2 := p2) sl_list (rdE_ok (M := M) i (e := e)) (rdO_ok (M := M) i (e := lo)) (rdO_ok (M := M) i (e := hi)); rw [M.kf i] at h; exact h), ha HI _ _ σ F H st (fun x s1 u F1 H1 c1 e1 sv1 => ?_) hc⟩
  obtain ⟨⟨a, vs, h1, h2, h3⟩, st1⟩ := sv1.fz
  refine hl s1 HI _ _ σ F1 H1 st1 (fun l s2 F2 H2 c2 e2 st2 => hh s2 HI _ _ σ F2 H2 st2 (fun h s3 F3 H3 c3 e3 st3 => ?_) c2) c1
  refine ⟨a, vs, h1, SqL.mono ((e2.trans e3).trans st3.ok) h2, fun p hp => hq _ s3 _ F3 _ c3 (e1.trans (e2.trans e3)) (st3.newV hp ⟨p, _, rfl, rfl, (h3.imp fun _ _ q => ra.mono (e2.trans e3) q).cut l h⟩)⟩
end

/-! ### lists put together; list(range(n)) -/
theorem xe_catL {a b : Expr} {pos : Pos} {wa : (List α → S → Prop) → Prop} {wb : S → (List α → S → Prop) → Prop} (ha : XE M O Γ s a (ol ra) wa) (hb : ∀ s', XE M O Γ s' b (ol ra) (wb s')) :
    XE M O Γ s (.BinOp a .Add b pos) (ol ra) (fun k => wa fun x s1 => wb s1 fun y s2 => x.length + y.length ≤ sizeLine ∧ k (x ++ y) s2) := by
  intro HI C Q σ F H st hq hc
  refine ⟨_, fun i => pe_op op_cat (rdE_ok i) (rdE_ok i), ha HI _ _ σ F H st (fun x s1 u F1 H1 c1 e1 sv1 => ?_) hc⟩
  obtain ⟨hv, h1, h2, ⟨a, vs, ev, eh, al⟩, sa, so, ok⟩ := sv1
  subst ev eh
  have ok1 := ok.freeze
  have ef : Same F1 (upd F1 a (.lst vs)) := same_upd (ok.own _ List.mem_cons_self).2.1
  refine hb s1 HI _ _ σ _ H1 ⟨h1, h2, sa.mono ef, (O s1).mono ef so, ok1⟩ (fun y s2 v F2 H2 c2 e2 sv2 => ?_) c1
  have st2 := sv2.drop
  obtain ⟨hv', k1, k2, ⟨b, ws, ev', eh', al'⟩, sa', so', ok'⟩ := sv2
  subst ev' eh'
  have al2 : All2 (fun x v => ra.r x v F2) x vs := al.imp fun _ _ q => ra.mono (ef.trans e2) q
  refine ⟨a, b, vs, ws, rfl, rfl, ok'.fz _ _ (e2 _ _ upd_same), (ok'.own _ List.mem_cons_self).1, by rw [← al.length, ← al'.length]; exact c2.1, fun p hp => ?_⟩
  exact hq _ s2 _ F2 _ c2.2 (e1.trans (ef.trans e2)) (st2.newV hp ⟨p, _, rfl, rfl, al2.append al'⟩)
theorem all2_rg (a b : Int) (F : Hp) : All2 (fun x v => pI.r x v F) (rg a (b - a).toNat) (rgV a b) := by
  unfold rg rgV
  generalize List.range (b - a).toNat = l
  induction l with
  | nil => trivial
  | cons x r ih => exact ⟨rfl, ih⟩
theorem xe_listRg1 {a : Expr} {p p' pos pos' : Pos} {wa : (Int → S → Prop) → Prop} (hm : mg "list" = none) (hm2 : mg "range" = none) (ha : XE M O Γ s a (fz pI) wa) (hg : GlN sc "list" := by rfl) (hg2 : GlN sc "range" := by rfl) (hs : NoStar a := by intro _ _; rfl) :
    XE M O Γ s (.Call (.Name "list" p) [.Call (.Name "range" p') [a] [] pos'] [] pos) (ol pI) (fun k => wa fun n s1 => RgOk 0 n ∧ k (rg 0 n.toNat) s1) := by
  intro HI C Q σ F H st hq hc
  refine ⟨_, fun i => pe_listRg (M.calm i) (Gl.of hg i) (M.none hm i) (prg_1 (Gl.of hg2 i) (M.none hm2 i) (rdE_ok i) (hs _ _)) rfl, ha HI _ _ σ F H st (fun x s1 u F1 H1 c1 e1 sv1 => ?_) hc⟩
  obtain ⟨rx, st1⟩ := sv1.fz
  refine ⟨x, rx, c1.1, fun p hp => hq _ s1 _ F1 _ c1.2 e1 (st1.newV hp ⟨p, _, rfl, rfl, ?_⟩)⟩
  have h := all2_rg 0 x F1
  rw [Int.sub_zero] at h
  exact h
/-! ### isinstance -/
/-- things of this kind are of a built-in type -/
def Isa (K : PySem.W.Frag) (ra : RP α) (T : String) : Prop := ∀ {x v F H}, Same F H → ra.r x v F → TyX K H v (.type T)
theorem isa_I : Isa K pI "int" := fun {x v F H} e h => by rw [show v = .int x from h]; exact .base (.int _)
theorem isa_B : Isa K pB "bool" := fun {x v F H} e h => by rw [show v = .bl x from h]; exact .base (.bl _)
theorem isa_T : Isa K pT "str" := fun {x v F H} e h => by rw [h.1]; exact .base (.str _)
theorem isa_U : Isa K (pU K ra) "tuple" := fun {x v F H} e ⟨a, vs, h1, h2, h3⟩ => by
  rw [h1]
  rcases h2 with (h | ⟨o, h⟩) | ⟨o, its, n, h, hc, _⟩
  · exact .base (.tup (e _ _ h))
  · exact .fTuple (e _ _ h)
  · exact .kTuple h hc
theorem isa_P : Isa K (pP K ra rb) "tuple" := fun {x v F H} e ⟨a, u1, u2, h1, h2, _⟩ => by
  rw [h1]
  rcases h2 with (h | ⟨o, h⟩) | ⟨o, its, n, h, hc, _⟩
  · exact .base (.tup (e _ _ h))
  · exact .fTuple (e _ _ h)
  · exact .kTuple h hc
theorem isa_P3 : Isa K (pP3 K ra rb rc) "tuple" := fun {x v F H} e ⟨a, u1, u2, u3, h1, h2, _⟩ => by
  rw [h1]
  rcases h2 with (h | ⟨o, h⟩) | ⟨o, its, n, h, hc, _⟩
  · exact .base (.tup (e _ _ h))
  · exact .fTuple (e _ _ h)
  · exact .kTuple h hc
theorem isa_L : Isa K (pL K ra) "list" := fun {x v F H} e ⟨a, vs, h1, h2, h3⟩ => by
  rw [h1]
  rcases h2 with (h | ⟨o, h⟩) | ⟨o, its, n, h, hc, _⟩
  · exact .base (.lst (e _ _ h))
  · exact .base (.frz (e _ _ h))
  · exact .kList h hc
theorem xe_isa {x : Str} {T U : String} {b : Bool} {e : Expr} {p p' pos : Pos} {wa : (α → S → Prop) → Prop} (hI : Isa K ra T) (hk : kitB T U = some b) (hv : bootBuiltins x = some (.type U)) (hm : mg "isinstance" = none) (hm2 : mg x = none) (ha : XE M O Γ s e (fz ra) wa) (hg : GlN sc "isinstance" := by rfl) (hg2 : GlN sc x := by rfl)
    (hn : x ≠ "__name__" := by decide) (hdb : (x == ("__debug__" : Str)) = false := by decide) (hs : NoStar e := by intro _ _; rfl) :
    XE M O Γ s (.Call (.Name "isinstance" p) [e, .Name x p'] [] pos) (fz pB) (fun k => wa fun _ s1 => k b s1) := by
  intro HI C Q σ F H st hq hc
  refine ⟨_, fun i => pe_callB (by have h := call_isi (X := M.X i); rw [M.kf i] at h; exact h) (Gl.of hg i) (M.none hm i) b_isinstance (pa_cons (rdE_ok i) (pa_cons (pe_bltn (v := .ty U) (Gl.of hg2 i) (M.none hm2 i) hv rfl hn hdb) pa_nil rfl) (hs _ _)) (by decide) (by decide) (hs _ _) rfl, ?_⟩
  refine ha HI _ _ σ F H st (fun y s1 u F1 H1 c1 e1 sv1 => ?_) hc
  obtain ⟨rx, st1⟩ := sv1.fz
  exact ⟨u, .ty U, .type T, .type U, b, rfl, .ty U, hI st1.ok rx, kit_ty hk, hq b s1 _ F1 H1 c1 e1 (st1.val rfl)⟩
end
end Sm

set_option Elab.async false
set_option linter.all false
set_option maxRecDepth 100000
set_option maxHeartbeats 4000000
namespace Sm
open PySem PySem.Spec PyProof.Rows L2
/-! ### resources -/
/-- a list at a known address -/
def resL {α : Type} (r : RP α) (a : Addr) (xs : List α) : Res := ⟨fun F h => ∃ vs, h = [(a, .lst vs)] ∧ All2 (fun x u => r.r x u F) xs vs, fun e ⟨vs, h1, h2⟩ => ⟨vs, h1, h2.imp fun _ _ q => r.mono e q⟩⟩
/-- a resource of which a part is told -/
def hidR {S1 S2 : Type} (I : S2 → S1 → Prop) (O : S1 → Res) (n : S2) : Res := ⟨fun F h => ∃ s, I n s ∧ (O s).p F h, fun e ⟨s, h1, h2⟩ => ⟨s, h1, (O s).mono e h2⟩⟩
theorem SpF.abs {αs ρ ad S1 S2 : Type} {PA : ad → αs → List VA} {O1 : ad → S1 → Res} {A : ρ → VA} {m1 : αs → S1 → (ρ → S1 → Prop) → Prop} {m2 : αs → S2 → (ρ → S2 → Prop) → Prop} {I : S2 → S1 → Prop}
    (hm : ∀ x n C, m2 x n C → ∀ s, I n s → m1 x s fun y s' => ∃ n', I n' s' ∧ C y n') {vs : List V} {H : Hp} {Q : VK} {E : XK} (h : SpF ad PA (fun a => hidR I (O1 a)) A m2 vs H Q E) : SpF ad PA O1 A m1 vs H Q E := by
  obtain ⟨a, x, n, F, HI, h2, av, ⟨s, hi, ho⟩, ok, C, hC, hw⟩ := h
  exact ⟨a, x, s, F, HI, h2, av, ho, ok, _, fun y s' ⟨n', hi', c⟩ v F' hv h2' H' e1 p1 p2 p3 => hC y n' c v F' hv h2' H' e1 p1 ⟨s', hi', p2⟩ p3, hm x n C hw s hi⟩
section
variable {P : Program} {w : World} {K : PySem.W.Frag} {mg : Str → Option Value} {base : Heap} {N : List Str} {sc : Scope} {fn : Str → Bool} {k : Nat}
variable {M : Fm P w K mg base N sc fn k}
variable {S : Type} {O : S → Res} {Γ : Asrt} {s : S} {α β γ ρ : Type} {ra : RP α} {rb : RP β} {rc : RP γ} {A : ρ → VA}
theorem Has.imp {x : Str} {j : Nat} {ps : List Str} {sp sp' : Sp} (h : Has P w K mg base x j ps sp) (hs : ∀ vs H Q E, sp' vs H Q E → sp vs H Q E) : Has P w K mg base x j ps sp' := by
  obtain ⟨f, fd, e1, e2, e3, e4⟩ := h.ex
  exact ⟨f, fd, e1, e2, e3, e4.imp hs⟩
theorem Stt.res {S1 : Type} {O1 : S1 → Res} {get : S → S1} {put : S → S1 → S} {HI F H : Hp} {σ : L2.St} (foc : Foc O O1 get put) (h : Stt O HI Γ s σ F H) : ∃ g1 g2 : HL, (O1 (get s)).p F g1 ∧ Ok F (g1 ++ g2) HI H ∧
    ∀ F' H' s1 g1', Same F F' → (O1 s1).p F' g1' → Ok F' (g1' ++ g2) HI H' → Stt O HI Γ (put s s1) σ F' H' := by
  obtain ⟨h1, h2, sa, so, ok⟩ := h
  obtain ⟨g1, g2, pm, so1, back⟩ := foc.split so
  refine ⟨g1, g2 ++ h1, so1, ok.perm ?_, fun F' H' s1 g1' e o1 ok' => ?_⟩
  · refine (List.perm_append_comm).trans ?_
    refine (pm.append_right h1).trans ?_
    rw [List.append_assoc]
  · obtain ⟨h', p', q'⟩ := back F' s1 g1' e o1
    refine ⟨h1, h', sa.mono e, q', ok'.perm ?_⟩
    rw [← List.append_assoc]
    exact (p'.symm.append_right h1).trans List.perm_append_comm
section
variable {get : S → List α} {put : S → List α → S} {a : Addr} {i : Nat} {x : Str} {p1 pos : Pos} {e e1 e2 : Expr}
/-- x[e], x at a known address -/
theorem xe_resIx {we : (Int → S → Prop) → Prop} (foc : Foc O (resL ra a) get put) (hΓ : Γ[i]? = some (some (fz pA a))) (he : XE M O Γ s e (fz pI) we) (hs : PlainIx e := by intro _ _; rfl) (hN : N[i]? = some x := by rfl) (hv : Vis sc x := by first | exact Or.inl rfl | exact Or.inr (Or.inl rfl) | exact Or.inr (Or.inr rfl))
    (hd : (x == ("__debug__" : Str)) = false := by decide) (hcd : (x == ("__classdict__" : Str)) = false := by decide) :
    XE M O Γ s (.Subscript (.Name x p1) e pos) (fz ra) (fun k => we fun j s1 => ∃ y, atI (get s1) j = some y ∧ k y s1) := by
  intro HI C Q σ F H st hq hc
  obtain ⟨v, ev, r⟩ := st.slot hΓ
  have r : v = .ref a := r
  subst r
  refine ⟨tOp (rIxL K) (tVar i) (rdE M e), fun j => (by have h := pe_ix (X := M.X j) (pos := pos) ix_list (pe_nameO (M := M) (pos := p1) hN hv hd hcd j) (rdE_ok (M := M) j (e := e)) hs; rw [M.kf j] at h; exact h), .ref a, ev, ?_⟩
  refine he HI _ _ σ F H st (fun j s1 u F1 H1 c1 e1 sv1 => ?_) hc
  obtain ⟨ru, st1⟩ := sv1.fz
  obtain ⟨y, hy, c⟩ := c1
  obtain ⟨g1, g2, ⟨vs, eg, al⟩, ok, _⟩ := st1.res foc
  subst eg
  obtain ⟨w', hw, rw'⟩ := al.at hy
  exact ⟨a, vs, j, w', rfl, ru, SqL.of (ok.own _ List.mem_cons_self).1, hw, hq y s1 w' F1 H1 c e1 (st1.val rw')⟩
/-- len(x), x at a known address -/
theorem xe_resLen {p p' : Pos} (foc : Foc O (resL ra a) get put) (hΓ : Γ[i]? = some (some (fz pA a))) (hm : mg "len" = none) (hg : GlN sc "len" := by rfl) (hN : N[i]? = some x := by rfl) (hv : Vis sc x := by first | exact Or.inl rfl | exact Or.inr (Or.inl rfl) | exact Or.inr (Or.inr rfl))
    (hd : (x == ("__debug__" : Str)) = false := by decide) (hcd : (x == ("__classdict__" : Str)) = false := by decide) :
    XE M O Γ s (.Call (.Name "len" p) [.Name x p'] [] pos) (fz pI) (fun k => k ((get s).length : Int) s) := by
  intro HI C Q σ F H st hq hc
  obtain ⟨v, ev, r⟩ := st.slot hΓ
  have r : v = .ref a := r
  subst r
  refine ⟨_, fun j => pe_callB (by have h := call_len_seq (X := M.X j); rw [M.kf j] at h; exact h) (Gl.of hg j) (M.none hm j) b_len (pa_cons (pe_nameO (M := M) (pos := p') hN hv hd hcd j) pa_nil rfl) (by decide) (by decide) rfl rfl, .ref a, ev, ?_⟩
  obtain ⟨g1, g2, ⟨vs, eg, al⟩, ok, _⟩ := st.res foc
  subst eg
  exact ⟨a, vs, rfl, .inl (SqL.of (ok.own _ List.mem_cons_self).1), hq _ s _ F H hc (Same.refl _) (st.val (by show V.int _ = V.int _; rw [al.length]))⟩
/-- x[e1] = e2, x at a known address -/
theorem xs_resSet {HI F0 : Hp} {D : Ends} {rest : List Stmt} {p2 : Pos} {w2 : (α → S → Prop) → Prop} {w1 : S → (Int → S → Prop) → Prop} {Pk : S → Prop} (foc : Foc O (resL ra a) get put) (hΓ : Γ[i]? = some (some (fz pA a))) (he2 : XE M O Γ s e2 (fz ra) w2) (he1 : ∀ s', XE M O Γ s' e1 (fz pI) (w1 s'))
    (hk : ∀ s', XSs M O HI F0 Γ s' rest D (Pk s')) (hN : N[i]? = some x := by rfl) (hv : Vis sc x := by first | exact Or.inl rfl | exact Or.inr (Or.inl rfl) | exact Or.inr (Or.inr rfl))
    (hd : (x == ("__debug__" : Str)) = false := by decide) (hcd : (x == ("__classdict__" : Str)) = false := by decide)
    (hsub : ∀ env v, assign (.Subscript (.Name x p1) e1 p2) env v = (do
      let ov ← holding [v] (eval (.Name x p1) env)
      let iv ← holding [v, ov] (eval e1 env)
      standAt p2
      holding [v, ov, iv] (setItem ov iv v)
      release [v, ov, iv] []) := by intro _ _; rfl)
    (hs : ∀ j, swapsWithSole [.Subscript (.Name x p1) e1 p2] e2 pos.line (M.X j).env = pure false := by intro _; rfl) (hw : ∀ j, swappedStores [.Subscript (.Name x p1) e1 p2] e2 (M.X j).env = pure none := by intro _; rfl) (h1 : ∀ env, (assignEach [.Subscript (.Name x p1) e1 p2] env).map (·.2) = [assign (.Subscript (.Name x p1) e1 p2) env] := by intro _; rfl) :
    XSs M O HI F0 Γ s (.Assign [.Subscript (.Name x p1) e1 p2] e2 pos :: rest) D (w2 fun y s1 => w1 s1 fun j s2 => ∃ n, ixN (get s2).length j = some n ∧ Pk (put s2 ((get s2).set n y))) := by
  intro σ F H e0 st hp
  refine ⟨_, fun j => pss_cons (ps_asg (rdE_ok j) (pg_sub (pe_nameO (M := M) (pos := p1) hN hv hd hcd j) (rdE_ok j) set_list (hsub _)) (hs j) (hw j) (h1 _)) (rdSs_ok j), ?_⟩
  refine he2 HI _ _ σ F H st (fun y s1 v F1 H1 c1 ex1 sv1 => ?_) hp
  obtain ⟨rv, st1⟩ := sv1.fz
  obtain ⟨u, eu, r⟩ := st1.slot hΓ
  have r : u = .ref a := r
  subst r
  refine ⟨.ref a, eu, ?_⟩
  refine he1 s1 HI _ _ σ F1 H1 st1 (fun j s2 iv F2 H2 c2 ex2 sv2 => ?_) c1
  obtain ⟨ri, st2⟩ := sv2.fz
  obtain ⟨n, hn, c⟩ := c2
  obtain ⟨g1, g2, ⟨vs, eg, al⟩, ok, back⟩ := st2.res foc
  subst eg
  refine ⟨a, vs, j, n, rfl, ri, (ok.own _ List.mem_cons_self).1, by rw [← al.length]; exact hn, ?_⟩
  exact hk _ σ F2 _ (e0.trans (ex1.trans ex2)) (back F2 _ _ [(a, .lst (vs.set n v))] (Same.refl _) ⟨_, rfl, al.set n (ra.mono ex2 rv)⟩ ok.set) c
end
/-- a thing made here becomes the resource -/
theorem xs_adopt0 {S1 : Type} {O1 : Addr → S1 → Res} {HI F0 : Hp} {sts : List Stmt} {B : VA} {R : ρ → Unit → Prop} {Pk : Prop} {u : Unit} (i : Nat) (s1 : S1) (hΓ : Γ[i]? = some (some B)) (hB : ∀ v F hv, B.p v F hv → ∃ a, v = .ref a ∧ (O1 a s1).p F hv)
    (hk : ∀ a, XSs M (O1 a) HI F0 (Γ.set i (some (fz pA a))) s1 sts { nx := fun _ H' => rtJ (O1 a) HI F0 A (fun y _ => R y ()) .non H', rt := rtJ (O1 a) HI F0 A (fun y _ => R y ()), bk := fun _ _ => False, ct := fun _ _ => False } Pk) :
    XSs M (fun _ : Unit => emp) HI F0 Γ u sts { nx := fun _ H' => rtJ (fun _ : Unit => emp) HI F0 A R .non H', rt := rtJ (fun _ : Unit => emp) HI F0 A R, bk := fun _ _ => False, ct := fun _ _ => False } Pk := by
  intro σ F H e0 st hp
  obtain ⟨h1, h2, sa, so, ok⟩ := st
  have so : h2 = [] := so
  subst so
  obtain ⟨v, g1, g2, ev, pm, hb, back⟩ := sa.at hΓ
  obtain ⟨a, ea, o1⟩ := hB v F g1 hb
  obtain ⟨h', p', q'⟩ := back F (fz pA a) v [] (Same.refl _) ⟨rfl, ea⟩
  rw [set_same ev] at q'
  have fin : ∀ v H', rtJ (O1 a) HI F0 A (fun y _ => R y ()) v H' → rtJ (fun _ : Unit => emp) HI F0 A R v H' := fun v H' ⟨y, s5, F5, r5, e5, hv, k1, k2, q1, q2, q3, q4⟩ =>
    ⟨y, (), F5, r5, e5, hv, k1, [], q1, q2, rfl, q4.sub (List.Sublist.append_left (List.Sublist.append_left (List.nil_sublist _) _) _)⟩
  refine rdSs_mono (hk a σ F H e0 ⟨h', g1, q', o1, ok.perm ?_⟩ hp) (fun _ H' q => fin _ _ q) fin (fun _ _ q => q.elim) (fun _ _ q => q.elim)
  rw [List.append_nil]
  refine pm.trans ?_
  refine (List.perm_append_comm).trans ?_
  exact p'.symm.append_right g1
end
end Sm
namespace Sm
open PySem PySem.Spec PyProof.Rows L2
theorem XSs.conv {P : Program} {w : World} {K : PySem.W.Frag} {mg : Str → Option Value} {base : Heap} {N : List Str} {sc : Scope} {fn : Str → Bool} {k : Nat} {M : Fm P w K mg base N sc fn k} {S : Type} {O : S → Res} {Γ : Asrt} {s : S} {HI F0 : Hp} {sts : List Stmt} {D : Ends} {Pf Pf' : Prop}
    (h : XSs M O HI F0 Γ s sts D Pf') (e : Pf → Pf') : XSs M O HI F0 Γ s sts D Pf := fun σ F H e0 st hp => h σ F H e0 st (e hp)
end Sm
namespace Sm
open PySem PySem.Spec PyProof.Rows L2
section
variable {P : Program} {w : World} {K : PySem.W.Frag} {mg : Str → Option Value} {base : Heap} {N : List Str} {sc : Scope} {fn : Str → Bool} {k : Nat}
variable {M : Fm P w K mg base N sc fn k}
variable {S : Type} {O : S → Res} {Γ : Asrt} {s : S} {α β γ ρ : Type} {ra : RP α} {rb : RP β} {rc : RP γ} {A : ρ → VA}
/-! ### and, or, if-else where the second part asks nothing -/
theorem xw_andp {a b : Expr} {rest : List Expr} {pos : Pos} {wa : (Bool → S → Prop) → Prop} {y : Bool} (ha : XT M O Γ s a wa) (hb : ∀ s', XW M O Γ s' (.BoolOp .And (b :: rest) pos) (fun k => k y s')) :
    XW M O Γ s (.BoolOp .And (a :: b :: rest) pos) (fun k => wa fun x s1 => k (x && y) s1) := by
  intro HI C Q σ F H st hq hc
  refine ⟨_, fun i => pw_and (rdT_ok i) (rdW_ok i), ha HI _ _ σ F H st (fun x s1 F1 H1 c e st1 => ?_) hc⟩
  cases x with
  | true => exact (iteT (hb s1 HI C Q σ F1 H1 st1 (fun y s2 F2 H2 c2 e2 st2 => hq y s2 F2 H2 c2 (e.trans e2) st2) (by simpa using c)) : ite _ _ _)
  | false => exact (iteF (hq false s1 F1 H1 (by simpa using c) e st1) : ite _ _ _)
theorem xw_orp {a b : Expr} {rest : List Expr} {pos : Pos} {wa : (Bool → S → Prop) → Prop} {y : Bool} (ha : XT M O Γ s a wa) (hb : ∀ s', XW M O Γ s' (.BoolOp .Or (b :: rest) pos) (fun k => k y s')) :
    XW M O Γ s (.BoolOp .Or (a :: b :: rest) pos) (fun k => wa fun x s1 => k (x || y) s1) := by
  intro HI C Q σ F H st hq hc
  refine ⟨_, fun i => pw_or (rdT_ok i) (rdW_ok i), ha HI _ _ σ F H st (fun x s1 F1 H1 c e st1 => ?_) hc⟩
  cases x with
  | true => exact (iteT (hq true s1 F1 H1 (by simpa using c) e st1) : ite _ _ _)
  | false => exact (iteF (hb s1 HI C Q σ F1 H1 st1 (fun y s2 F2 H2 c2 e2 st2 => hq y s2 F2 H2 c2 (e.trans e2) st2) (by simpa using c)) : ite _ _ _)
theorem xe_andp {a b : Expr} {rest : List Expr} {pos : Pos} {wa : (Bool → S → Prop) → Prop} {y : Bool} (ha : XE M O Γ s a (fz pB) wa) (hb : ∀ s', XE M O Γ s' (.BoolOp .And (b :: rest) pos) (fz pB) (fun k => k y s')) :
    XE M O Γ s (.BoolOp .And (a :: b :: rest) pos) (fz pB) (fun k => wa fun x s1 => k (x && y) s1) := by
  intro HI C Q σ F H st hq hc
  refine ⟨_, fun i => pe_and (rdE_ok i) (rdE_ok i), ha HI _ _ σ F H st (fun x s1 v F1 H1 c e sv1 => ?_) hc⟩
  obtain ⟨r, st1⟩ := sv1.fz
  refine ⟨x, r, ?_⟩
  cases x with
  | true => exact (iteT (hb s1 HI C Q σ F1 H1 st1 (fun y s2 v F2 H2 c2 e2 st2 => hq y s2 v F2 H2 c2 (e.trans e2) st2) (by simpa using c)) : ite _ _ _)
  | false => exact (iteF (hq false s1 _ F1 H1 (by simpa using c) e (st1.val rfl)) : ite _ _ _)
theorem xe_orp {a b : Expr} {rest : List Expr} {pos : Pos} {wa : (Bool → S → Prop) → Prop} {y : Bool} (ha : XE M O Γ s a (fz pB) wa) (hb : ∀ s', XE M O Γ s' (.BoolOp .Or (b :: rest) pos) (fz pB) (fun k => k y s')) :
    XE M O Γ s (.BoolOp .Or (a :: b :: rest) pos) (fz pB) (fun k => wa fun x s1 => k (x || y) s1) := by
  intro HI C Q σ F H st hq hc
  refine ⟨_, fun i => pe_or (rdE_ok i) (rdE_ok i), ha HI _ _ σ F H st (fun x s1 v F1 H1 c e sv1 => ?_) hc⟩
  obtain ⟨r, st1⟩ := sv1.fz
  refine ⟨x, r, ?_⟩
  cases x with
  | true => exact (iteT (hq true s1 _ F1 H1 (by simpa using c) e (st1.val rfl)) : ite _ _ _)
  | false => exact (iteF (hb s1 HI C Q σ F1 H1 st1 (fun y s2 v F2 H2 c2 e2 st2 => hq y s2 v F2 H2 c2 (e.trans e2) st2) (by simpa using c)) : ite _ _ _)
theorem xe_ifp {c a b : Expr} {pos : Pos} {wc : (Bool → S → Prop) → Prop} {x y : ρ} (hc : XT M O Γ s c wc) (ha : ∀ s', XE M O Γ s' a A (fun k => k x s')) (hb : ∀ s', XE M O Γ s' b A (fun k => k y s')) :
    XE M O Γ s (.IfExp c a b pos) A (fun k => wc fun z s1 => k (if z = true then x else y) s1) := by
  intro HI C Q σ F H st hq hw
  refine ⟨_, fun i => pe_ifExp (rdT_ok i) (rdE_ok i) (rdE_ok i), hc HI _ _ σ F H st (fun z s1 F1 H1 c e st1 => ?_) hw⟩
  cases z with
  | true => exact (iteT (ha s1 HI C Q σ F1 H1 st1 (fun y s2 v F2 H2 c2 e2 sv => hq y s2 v F2 H2 c2 (e.trans e2) sv) (by simpa using c)) : ite _ _ _)
  | false => exact (iteF (hb s1 HI C Q σ F1 H1 st1 (fun y s2 v F2 H2 c2 e2 sv => hq y s2 v F2 H2 c2 (e.trans e2) sv) (by simpa using c)) : ite _ _ _)
/-- a constant of the module -/
theorem xe_glob {x : Str} {v : V} {u : Value} {a : α} {pos : Pos} (hm : mg x = some u) (r : RelV v u) (hr : ∀ F, ra.r a v F) (hg : GlN sc x := by rfl) (hd : (x == ("__debug__" : Str)) = false := by decide) : XE M O Γ s (.Name x pos) (fz ra) (fun k => k a s) := by
  intro HI C Q σ F H st hq hc
  exact ⟨_, fun i => pe_glob (Gl.of hg i) (by rw [M.mgl]; exact hm) r hd, hq a s _ F H hc (Same.refl _) (st.val (hr F))⟩
theorem nn_I : ∀ (x : Int) F, ¬ pI.r x .non F := fun x F h => by cases (show V.non = .int x from h)
theorem nn_B : ∀ (x : Bool) F, ¬ pB.r x .non F := fun x F h => by cases (show V.non = .bl x from h)
theorem nn_T : ∀ (x : Text) F, ¬ pT.r x .non F := fun x F h => by cases h.1
theorem nn_L : ∀ (x : List α) F, ¬ (pL K ra).r x .non F := fun x F ⟨a, vs, h, _⟩ => by cases h
theorem nn_U : ∀ (x : List α) F, ¬ (pU K ra).r x .non F := fun x F ⟨a, vs, h, _⟩ => by cases h
theorem nn_P : ∀ (x : α × β) F, ¬ (pP K ra rb).r x .non F := fun x F ⟨a, u1, u2, h, _⟩ => by cases h
theorem xs_none {HI F00 F0 : Hp} {A : Unit → VA} {R : Unit → S → Prop} {rt bk ct} (hF : Same F00 F0) (hA : A = fz pN) : XSs M O HI F0 Γ s [] { nx := fun _ H' => rtJ O HI F00 A R .non H', rt := rt, bk := bk, ct := ct } (R () s) := by
  subst hA
  intro σ F H e st hp
  obtain ⟨h1, h2, sa, so, ok⟩ := st
  exact ⟨_, fun i => pss_nil, (), s, F, hp, hF.trans e, [], [], h2, ⟨rfl, rfl⟩, rfl, so, ok.sub (List.sublist_append_right _ _)⟩
end
end Sm

set_option Elab.async false
set_option linter.all false
set_option maxRecDepth 100000
set_option maxHeartbeats 4000000
namespace Sm
open PySem PySem.Spec PyProof.Rows L2
section
variable {P : Program} {w : World} {K : PySem.W.Frag} {mg : Str → Option Value} {base : Heap} {N : List Str} {sc : Scope} {fn : Str → Bool} {k : Nat}
variable {M : Fm P w K mg base N sc fn k}
variable {S : Type} {O : S → Res} {Γ : Asrt} {s : S} {α β γ ρ : Type} {ra : RP α} {rb : RP β} {rc : RP γ} {A : ρ → VA}
theorem xs_setLc0 {HI F0 : Hp} {D : Ends} {y : Str} {py pos pos' : Pos} {rest : List Stmt} {tg iter elt : Expr} {scope : Scope} {L : List Nat} {g : α → Asrt → Asrt} {wi : (List α → S → Prop) → Prop} {we : α → S → (β → S → Prop) → Prop} {Pk : List β → S → Prop}
    (i : Nat) (own : List (Str × Nat)) (hi : XI M O Γ s tg iter ra wi) (hg : XGt (M.blk scope) tg ra g L) (he : ∀ x s', XE (M.blk scope) O (g x (wipeA Γ (own.map (·.2)))) s' elt (fz rb) (we x s'))
    (hk : ∀ z s', XSs M O HI F0 (Γ.set i (some (ol rb z))) s' rest D (Pk z s'))
    (hN : N[i]? = some y := by rfl) (hx : sc.names.lookup y = some .local := by rfl) (ok : blkC N sc scope own = true := by decide +kernel) (hL : ∀ i ∈ L, i ∈ own.map (·.2) := by decide) (hΓ : Γ.length = N.length := by rfl) (hs : ∀ env x, foldedSetIterable iter env x = pure x := by intro _ _; rfl)
    (hl : (py.line == pos.line) = true := by rfl) (ha : (scope.names.any fun (n, k) => n == y && (k == .local || k == .cell)) = false := by decide +kernel) (hkd : sc.kind = .function := by rfl) :
    XSs M O HI F0 Γ s (.Assign [.Name y py] (.ListComp elt [⟨tg, iter, [], 0⟩] scope pos) pos' :: rest) D (wi fun xs s1 => xs.length ≤ sizeLine ∧ compW (fun x s k => we x s fun y s2 => k (some y) s2) Pk xs s1 []) :=
  xs_setLc i own hi hg (fun x s' => xts_nil) he hk hN hx ok hL hΓ hs hl ha hkd
/-- a list made here becomes the resource, of which a part is told -/
theorem xs_adopt {S2 : Type} {HI F0 : Hp} {sts : List Stmt} {R : ρ → Unit → Prop} {Pk : Prop} {u : Unit} {y : List α} (i : Nat) (I : S2 → List α → Prop) (n : S2) (hΓ : Γ[i]? = some (some (ol ra y)))
    (hk : ∀ a, XSs M (hidR I (resL ra a)) HI F0 (Γ.set i (some (fz pA a))) n sts { nx := fun _ H' => rtJ (hidR I (resL ra a)) HI F0 A (fun y _ => R y ()) .non H', rt := rtJ (hidR I (resL ra a)) HI F0 A (fun y _ => R y ()), bk := fun _ _ => False, ct := fun _ _ => False } Pk) :
    XSs M (fun _ : Unit => emp) HI F0 Γ u sts { nx := fun _ H' => rtJ (fun _ : Unit => emp) HI F0 A R .non H', rt := rtJ (fun _ : Unit => emp) HI F0 A R, bk := fun _ _ => False, ct := fun _ _ => False } (I n y ∧ Pk) := by
  intro σ F H e0 st hp
  exact xs_adopt0 (O1 := fun a => hidR I (resL ra a)) i n hΓ (fun v F hv ⟨a, vs, e1, e2, e3⟩ => ⟨a, e1, y, hp.1, vs, e2, e3⟩) hk σ F H e0 st hp.2
end
end Sm
namespace Sm
open PySem PySem.Spec PyProof.Rows L2
/-- where ways meet: Q is what is known there -/
theorem jn_by {γ S : Type} {body : (γ → S → Prop) → Prop} {kj : γ → S → Prop} (Q : γ → S → Prop) (h1 : ∀ kj' : γ → S → Prop, (∀ z s, Q z s → kj' z s) → body kj') (h2 : ∀ z s, Q z s → kj z s) : jn body kj := h1 kj h2
/-- a loop by an invariant -/
theorem forB_by {α γ S : Type} {B : α → γ → S → (γ → S → Prop) → (γ → S → Prop) → Prop} {k : γ → S → Prop} (I : List α → γ → S → Prop) (hk : ∀ c s, I [] c s → k c s) :
    ∀ (xs : List α) (c : γ) (s : S), I xs c s → (∀ x xs' c s, I (x :: xs') c s → ∀ kn : γ → S → Prop, (∀ c' s', I xs' c' s' → kn c' s') → B x c s kn k) → forB B k xs c s
  | [], c, s, h, _ => hk c s h
  | x :: xs, c, s, h, st => st x xs c s h _ fun c' s' q => forB_by I hk xs c' s' q st
/-- a comprehension by an invariant -/
theorem compW_by {α β S : Type} {B : α → S → (Option β → S → Prop) → Prop} {k : List β → S → Prop} (I : List α → List β → S → Prop) (hk : ∀ ys s, I [] ys s → k ys s) :
    ∀ (xs : List α) (s : S) (acc : List β), I xs acc s → (∀ x xs' acc s, I (x :: xs') acc s → ∀ kk : Option β → S → Prop, (∀ o s', I xs' (match o with | none => acc | some y => acc ++ [y]) s' → kk o s') → B x s kk) → compW B k xs s acc
  | [], s, acc, h, _ => hk acc s h
  | x :: xs, s, acc, h, st => st x xs acc s h _ fun o s' q => compW_by I hk xs s' _ q st
/-- a loop that does a sum of what it carries -/
theorem forB_foldl {α γ S : Type} {B : α → γ → S → (γ → S → Prop) → (γ → S → Prop) → Prop} {k : γ → S → Prop} (f : γ → α → γ) (Ok : γ → Prop) (xs : List α) (c : γ) (s : S) (h0 : Ok c)
    (st : ∀ x, x ∈ xs → ∀ c s (kn kb : γ → S → Prop), Ok c → (Ok (f c x) → kn (f c x) s) → B x c s kn kb) (hk : k (xs.foldl f c) s) : forB B k xs c s := by
  induction xs generalizing c with
  | nil => exact hk
  | cons x xs ih => exact st x List.mem_cons_self c s _ _ h0 fun h1 => ih _ h1 (fun y hy => st y (List.mem_cons_of_mem _ hy)) hk
theorem compW_fm {α β S : Type} {B : α → S → (Option β → S → Prop) → Prop} {k : List β → S → Prop} (f : α → Option β) (xs : List α) (s : S) (acc : List β)
    (st : ∀ x, x ∈ xs → ∀ s (kk : Option β → S → Prop), kk (f x) s → B x s kk) (hk : k (acc ++ xs.filterMap f) s) : compW B k xs s acc := by
  induction xs generalizing acc with
  | nil => rw [List.filterMap_nil, List.append_nil] at hk; exact hk
  | cons x xs ih =>
    refine st x List.mem_cons_self s _ (ih _ (fun y hy => st y (List.mem_cons_of_mem _ hy)) ?_)
    rw [List.filterMap_cons] at hk
    cases h : f x with
    | none => rw [h] at hk; exact hk
    | some y => rw [h] at hk; simpa using hk
theorem ixN_of {n : Nat} {i : Int} (h0 : 0 ≤ i) (h1 : i < n) : ixN n i = some i.toNat := by unfold ixN; rw [if_pos h0, if_pos h1]
theorem atI_of {α : Type} {xs : List α} {i : Int} (h0 : 0 ≤ i) (h1 : i < xs.length) : atI xs i = some (xs[i.toNat]'(by omega)) := by
  unfold atI; rw [ixN_of h0 h1]; exact List.getElem?_eq_getElem _
theorem atI_nat {α : Type} {xs : List α} {j : Nat} (h : j < xs.length) : atI xs (j : Int) = some xs[j] := atI_of (by omega) (by omega)
end Sm
namespace Sm
open PySem PySem.Spec PyProof.Rows L2
theorem All2.ints {F : Hp} : ∀ ns : List Int, All2 (fun x u => pI.r x u F) ns (ns.map V.int)
  | [] => trivial
  | _ :: ns => ⟨rfl, All2.ints ns⟩
/-- a law, begun with its script -/
theorem sp_law_of {K : PySem.W.Frag} {m : List Int × Unit → Unit → (Bool → Unit → Prop) → Prop} (hm : ∀ ns : List Int, ns.length ≤ 63 → m (ns, ()) () fun y _ => y = true) {a : Addr} {ns : List Int} {H : Hp} {E : XK}
    (hl : ns.length ≤ 63) (hS : SqL K H a (ns.map V.int)) : SpF Unit (fun _ (x : List Int × Unit) => [fz (pL K pI) x.1]) (fun _ _ => emp) (fz pB) m [.ref a] H (fun v _ => v = .bl true) E :=
  ⟨(), (ns, ()), (), H, fun _ => none, [], ⟨⟨rfl, a, _, rfl, hS, All2.ints ns⟩, trivial⟩, rfl, ⟨Same.refl _, fun _ h => (by cases h), List.nodup_nil, (fun _ _ h => by cases h), (fun _ h => by cases h), fun _ _ h => (by cases h)⟩, _, fun y s' c v F' hv h2' H' e av o ok => by
    obtain ⟨_, r⟩ := av
    rw [show v = .bl y from r, c], hm ns hl⟩
end Sm

set_option Elab.async false
set_option linter.all false
set_option maxRecDepth 100000
set_option maxHeartbeats 4000000
namespace Sm
open PySem PySem.Spec PyProof.Rows L2
/-! ### list + list, whatever stands there -/
def rCatSq (K : PySem.W.Frag) : R2 := fun x y H Q => ∃ l b xs zs, x = .ref l ∧ y = .ref b ∧ SqL K H l xs ∧ SqL K H b zs ∧ xs.length + zs.length ≤ sizeLine ∧ ∀ p, H p = none → Q (.ref p) (upd H p (.lst (xs ++ zs)))
theorem op_catSq {X : Cx} : OpR X (binaryOp .Add) (rCatSq X.K) := by
  intro pins s σ H x y v u Q I rx ry h
  obtain ⟨l, b, xs, zs, rfl, rfl, hl, hb, hz, q⟩ := h
  cases rx
  cases ry
  obtain ⟨its, r, pl, _⟩ := I.list hl
  obtain ⟨its2, r2, pl2, _⟩ := I.list hb
  have n1 := r.length
  have n2 := r2.length
  obtain ⟨⟨cls, dd, data, sl⟩, ho, hc, n, hd⟩ := pl.isList
  obtain ⟨⟨cls2, dd2, data2, sl2⟩, ho2, hc2, m, hd2⟩ := pl2.isList
  simp only at hc hd hc2 hd2
  subst hc hd hc2 hd2
  refine concat_meets ⟨_, ho, rfl⟩ ⟨_, ho2, rfl⟩ noFill_list_add seq_list_add PySem.F.slot_list_add PySem.F.entry_list_add (PySem.F.args_list_add_2 _ _) (list_addW l b its.toArray its2.toArray n m dd dd2 sl sl2 (by simp only [List.size_toArray]; omega)) ⟨ho, ho2, ?_⟩
  have ea : its.toArray ++ its2.toArray = (its ++ its2).toArray := by simp
  rw [ea]
  exact ⟨.ref _, _, I.lnew (t' := s.toks) (r.append r2) (by rw [List.length_append]; omega), rfl, q _ I.fresh⟩
/-- text * int -/
def mulT {α : Type} (x : List α) (n : Int) : List α := (List.replicate n.toNat x).flatten
def MulOk {α : Type} (x : List α) (n : Int) : Prop := x.length ≤ 1000 ∧ -1000 ≤ n ∧ n ≤ 1000
def rMulT : R2 := fun x y H Q => ∃ (a : Text) (n : Int), x = .str ⟨a.toArray⟩ ∧ y = .int n ∧ MulOk a n ∧ Q (.str ⟨(mulT a n).toArray⟩) H
theorem foldl_cat {α : Type} (x : Array α) : ∀ (n : Nat) (acc : Array α), (List.replicate n x).foldl (· ++ ·) acc = acc ++ (List.replicate n x.toList).flatten.toArray
  | 0, acc => by simp
  | n + 1, acc => by
    rw [List.replicate_succ, List.foldl_cons, foldl_cat x n, List.replicate_succ, List.flatten_cons, Array.append_assoc]
    congr 1
    apply Array.ext'
    simp
theorem op_mulT {X : Cx} : OpR X (binaryOp .Mult) rMulT := by
  intro pins s σ H x y v u Q I rx ry h
  obtain ⟨a, n, rfl, rfl, ⟨h1, h2, h3⟩, q⟩ := h
  obtain ⟨t, rfl⟩ := rx
  obtain ⟨t', rfl⟩ := ry
  have hl : (⟨a.toArray⟩ : Str).length = a.length := by simp [Str.length]
  refine PySem.P.mul_str (by rw [decide_eq_false (by omega), decide_eq_false (by omega)]; rfl) (fun g1 _ g3 => ?_) (fun g1 _ => ?_) ?_
  · rw [hl] at g3
    have : (2 ^ 63 - 1) / n ≥ 1000 := (Int.le_ediv_iff_mul_le (by omega)).mpr (by omega)
    omega
  · have hn : a.length * n.toNat ≤ 1000 * 1000 := Nat.mul_le_mul h1 (by omega)
    rw [hl]
    show decide (_ > sizeLine) = false
    exact decide_eq_false (Nat.not_lt.mpr (Nat.le_trans hn (by decide)))
  · have hz : ∀ z : Str, z = ⟨(mulT a n).toArray⟩ → EP X pins σ Q (.str z s.toks) { s with toks := s.toks + 1 } := fun z e => by
      subst e
      exact ⟨.str _, H, I.tok _, ⟨_, rfl⟩, q⟩
    by_cases g1 : n < 1
    · rw [if_pos g1]
      refine ⟨by decide, hz _ ?_⟩
      unfold mulT
      rw [show n.toNat = 0 by omega]; rfl
    · rw [if_neg g1]
      by_cases g2 : (n == 1 || (⟨a.toArray⟩ : Str).length == 0) = true
      · rw [if_pos g2]
        refine ⟨.str _, H, I, ⟨_, rfl⟩, ?_⟩
        have e : mulT a n = a := by
          unfold mulT
          rw [hl] at g2
          rcases Bool.or_eq_true_iff.mp g2 with g | g
          · rw [eq_of_beq g]; simp
          · have : a = [] := List.eq_nil_of_length_eq_zero (eq_of_beq g)
            subst this; simp
        rw [e] at q; exact q
      · rw [if_neg g2]
        have e : (List.replicate n.toNat a.toArray).foldl (· ++ ·) #[] = (mulT a n).toArray := by rw [foldl_cat]; simp [mulT]
        refine ⟨?_, hz _ (by rw [e])⟩
        show Str.length ⟨_⟩ ≤ sizeLine
        rw [e]
        show (mulT a n).toArray.size ≤ _
        have hn : a.length * n.toNat ≤ 1000 * 1000 := Nat.mul_le_mul h1 (by omega)
        rw [List.size_toArray, mulT, List.length_flatten, List.map_replicate, List.sum_replicate_nat, Nat.mul_comm]
        exact Nat.le_trans hn (by decide)
end Sm

set_option Elab.async false
set_option linter.all false
set_option maxRecDepth 100000
set_option maxHeartbeats 4000000
namespace Sm
open PySem PySem.Spec PyProof.Rows L2
section
variable {F HI H : Hp} {h h1 h2 : HL}
/-- all of it frozen -/
def frA (F : Hp) : HL → Hp
  | [] => F
  | p :: h => frA (upd F p.1 p.2) h
theorem frA_ok : ∀ {h : HL} {F : Hp}, Ok F h HI H → Ok (frA F h) [] HI H ∧ Same F (frA F h) ∧ ∀ p ∈ h, frA F h p.1 = some p.2
  | [], F, k => ⟨k, Same.refl _, fun p hp => (by cases hp)⟩
  | (a, o) :: h, F, k => by
    obtain ⟨k1, s1, m1⟩ := frA_ok k.freeze
    have e : Same F (upd F a o) := same_upd (k.own _ List.mem_cons_self).2.1
    refine ⟨k1, e.trans s1, fun p hp => ?_⟩
    rcases List.mem_cons.mp hp with rfl | hp
    · exact s1 _ _ upd_same
    · exact m1 p hp
theorem Ok.back {F' H' : Hp} {g : HL} (k : Ok F (h1 ++ h2) HI H) (e : Same (frA F h1) F') (k' : Ok F' g (Sm.hide HI h2) H') : Ok F (h1 ++ h2) HI H' := by
  obtain ⟨_, s1, m1⟩ := frA_ok k.hide
  have nd := k.nd
  rw [List.map_append] at nd
  have nd2 := (List.nodup_append.mp nd).2.1
  refine ⟨fun b x q => k'.fz _ _ (e _ _ (s1 _ _ q)), fun p hp => ?_, k.nd, fun b x q => ?_, k.nt, k.hnt⟩
  · obtain ⟨_, a2, a3⟩ := k.own p hp
    refine ⟨?_, a2, a3⟩
    rcases List.mem_append.mp hp with hp | hp
    · exact k'.fz _ _ (e _ _ (m1 p hp))
    · exact (k'.hid p.1 p.2 (by unfold Sm.hide; rw [lookup_of_mem nd2 hp])).1
  · refine ⟨(k'.hid b x ?_).1, (k.hid b x q).2⟩
    unfold Sm.hide
    cases z : h2.lookup b with
    | none => exact q
    | some o =>
      obtain ⟨_, _, a3⟩ := k.own _ (List.mem_append_right _ (mem_of_lookup z))
      rw [a3] at q; cases q
end
/-- slots as they are looked at: what is owned is read -/
inductive Pk (K : PySem.W.Frag) : Asrt → Asrt → Prop
  | nil : Pk K [] []
  | no {Γ Δ} : Pk K Γ Δ → Pk K (none :: Γ) (none :: Δ)
  | fz {Γ Δ} {α : Type} {r : RP α} {x : α} : Pk K Γ Δ → Pk K (some (Sm.fz r x) :: Γ) (some (Sm.fz r x) :: Δ)
  | ol {Γ Δ} {α : Type} {r : RP α} {xs : List α} : Pk K Γ Δ → Pk K (some (Sm.ol r xs) :: Γ) (some (Sm.fz (pL K r) xs) :: Δ)
  | drop {Γ Δ} {A} : Pk K Γ Δ → Pk K (some A :: Γ) (none :: Δ)
theorem Pk.sat {K : PySem.W.Frag} {F F1 : Hp} (e : Same F F1) : ∀ {Γ Δ : Asrt} {σ : L2.St} {h : HL}, Pk K Γ Δ → Sat Γ σ F h → (∀ p ∈ h, F1 p.1 = some p.2) → Sat Δ σ F1 []
  | _, _, [], _, .nil, _, _ => rfl
  | _, _, _ :: σ, h, .no (Γ := Γ) (Δ := Δ) p, q, m => Pk.sat (Γ := Γ) (Δ := Δ) (σ := σ) e p q m
  | _, _, _ :: σ, _, .fz p, ⟨v, h1, h2, a, b, ⟨c1, c2⟩, d⟩, m => ⟨v, [], [], a, rfl, ⟨rfl, RP.mono _ e c2⟩, Pk.sat e p d fun p hp => m p (by rw [b]; exact List.mem_append_right _ hp)⟩
  | _, _, _ :: σ, _, .ol p, ⟨v, h1, h2, a, b, ⟨ad, vs, c1, c2, c3⟩, d⟩, m =>
    ⟨v, [], [], a, rfl, ⟨rfl, ad, vs, c1, .inl (.inl (m (ad, .lst vs) (by rw [b, c2]; exact List.mem_append_left _ List.mem_cons_self))), c3.imp fun _ _ q => RP.mono _ e q⟩, Pk.sat e p d fun p hp => m p (by rw [b]; exact List.mem_append_right _ hp)⟩
  | _, _, _ :: σ, _, .drop (Δ := Δ) p, ⟨v, h1, h2, a, b, c, d⟩, m => Pk.sat (Δ := Δ) (σ := σ) e p d fun p hp => m p (by rw [b]; exact List.mem_append_right _ hp)
section
variable {P : Program} {w : World} {K : PySem.W.Frag} {mg : Str → Option Value} {base : Heap} {N : List Str} {sc : Scope} {fn : Str → Bool} {k : Nat}
variable {M : Fm P w K mg base N sc fn k}
variable {S : Type} {O : S → Res} {Γ Δ : Asrt} {s : S} {α β γ ρ : Type} {ra : RP α} {rb : RP β} {rc : RP γ} {A : ρ → VA}
/-- what is no address, and holds none -/
def FlatR (r : RP α) : Prop := ∀ x v F F', r.r x v F → r.r x v F'
theorem fl_I : FlatR pI := fun _ _ _ _ h => h
theorem fl_B : FlatR pB := fun _ _ _ _ h => h
theorem fl_T : FlatR pT := fun _ _ _ _ h => h
theorem fl_O (h : FlatR ra) : FlatR (pO ra) := fun x v F F' q => by
  cases x with
  | none => exact q
  | some y => exact ⟨q.1, h _ _ _ _ q.2⟩
/-- an expression that only looks at what is owned -/
theorem xe_peek {e : Expr} {wd : (β → Prop) → Prop} (hp : Pk K Γ Δ) (hf : FlatR rb) (h : XE M (fun _ : Unit => emp) Δ () e (fz rb) (fun k => wd fun x => k x ())) : XE M O Γ s e (fz rb) (fun k => wd fun x => k x s) := by
  intro HI C Q σ F H st hq hc
  obtain ⟨h1, h2, sa, so, ok⟩ := st
  obtain ⟨k1, e1, m1⟩ := frA_ok ok.hide
  refine h (Sm.hide HI h2) (fun x _ => C x s) Q σ (frA F h1) H ⟨[], [], hp.sat e1 sa m1, rfl, k1⟩ (fun x s' v F' H' c e2 sv => ?_) hc
  obtain ⟨hv, g1, g2, ⟨hv0, rv⟩, _, _, ok'⟩ := sv
  exact hq x s v F H' c (Same.refl _) ⟨[], h1, h2, ⟨rfl, hf _ _ _ _ rv⟩, sa, so, ok.back e2 ok'⟩
/-! ### more of expressions -/
theorem xe_ofSome {e : Expr} {W : (Option α → S → Prop) → Prop} (h : XE M O Γ s e (fz (pO ra)) W) : XE M O Γ s e (fz ra) (fun k => W fun x s' => ∃ y, x = some y ∧ k y s') := by
  intro HI C Q σ F H st hq hc
  refine h HI _ Q σ F H st (fun x s' v F' H' c e sv => ?_) hc
  obtain ⟨y, rfl, c⟩ := c
  obtain ⟨r, st'⟩ := sv.fz
  exact hq y s' v F' H' c e (st'.val r.2)
theorem o_cat : Op2 (rCatSq K) (pL K ra) (pL K ra) (ol ra) (fun x y k => x.length + y.length ≤ sizeLine ∧ k (x ++ y)) :=
  fun O HI Γ s σ F H x y u v C Q st ⟨a, vs, e1, s1, a1⟩ ⟨b, ws, e2, s2, a2⟩ hq hc => ⟨a, b, vs, ws, e1, e2, SqL.mono st.ok s1, SqL.mono st.ok s2, by rw [← a1.length, ← a2.length]; exact hc.1, fun p hp => hq _ _ F _ hc.2 (Same.refl _) (st.newV hp ⟨p, _, rfl, rfl, a1.append a2⟩)⟩
theorem xe_cat {a b : Expr} {pos : Pos} {wa : (List α → S → Prop) → Prop} {wb : S → (List α → S → Prop) → Prop} (ha : XE M O Γ s a (fz (pL K ra)) wa) (hb : ∀ s', XE M O Γ s' b (fz (pL K ra)) (wb s')) :
    XE M O Γ s (.BinOp a .Add b pos) (ol ra) (fun k => wa fun x s1 => wb s1 fun y s2 => x.length + y.length ≤ sizeLine ∧ k (x ++ y) s2) :=
  xe_bin (fun i => by have h := op_catSq (X := M.X i); rw [M.kf i] at h; exact h) o_cat ha hb
theorem o_catU : Op2 (rCatA K) (pU K ra) (pU K ra) (fz (pU K ra)) (fun x y k => x.length + y.length ≤ sizeLine ∧ k (x ++ y)) := by
  intro S O HI Γ s σ F H x y u v C Q st ⟨a, vs, e1, s1, a1⟩ ⟨b, ws, e2, s2, a2⟩ hq hc
  refine ⟨a, b, vs, ws, e1, e2, SqT.mono st.ok s1, SqT.mono st.ok s2, by rw [← a1.length, ← a2.length]; exact hc.1, fun z => ?_, fun _ z => ?_, fun _ _ p hp => ?_⟩
  · subst z
    have : x = [] := List.eq_nil_of_length_eq_zero a1.length
    subst this
    exact hq _ _ F H hc.2 (Same.refl _) (st.val ⟨b, ws, rfl, s2, a2⟩)
  · subst z
    have : y = [] := List.eq_nil_of_length_eq_zero a2.length
    subst this
    refine hq _ _ F H hc.2 (Same.refl _) (st.val ⟨a, vs, rfl, s1, ?_⟩)
    rw [List.append_nil]; exact a1
  · obtain ⟨e3, st3⟩ := st.newF (o := .tup (vs ++ ws)) hp
    exact hq _ _ _ _ hc.2 e3 (st3.val ⟨p, _, rfl, .inl (.inl upd_same), (a1.append a2).imp fun _ _ q => ra.mono e3 q⟩)
theorem xe_catU {a b : Expr} {pos : Pos} {wa : (List α → S → Prop) → Prop} {wb : S → (List α → S → Prop) → Prop} (ha : XE M O Γ s a (fz (pU K ra)) wa) (hb : ∀ s', XE M O Γ s' b (fz (pU K ra)) (wb s')) :
    XE M O Γ s (.BinOp a .Add b pos) (fz (pU K ra)) (fun k => wa fun x s1 => wb s1 fun y s2 => x.length + y.length ≤ sizeLine ∧ k (x ++ y) s2) :=
  xe_bin (fun i => by have h := op_catA (X := M.X i); rw [M.kf i] at h; exact h) o_catU ha hb
theorem mulT_ok {x : Text} (h : okT x) (n : Int) : okT (mulT x n) := fun c hc => by
  obtain ⟨y, hy, hc⟩ := List.mem_flatten.mp hc
  rw [(List.mem_replicate.mp hy).2] at hc
  exact h c hc
theorem o_mulT : Op2 rMulT pT pI (fz pT) (fun x y k => MulOk x y ∧ k (mulT x y)) :=
  fun O HI Γ s σ F H x y u v C Q st rx ry hq hc => ⟨x, y, rx.1, ry, hc.1, hq _ _ F H hc.2 (Same.refl _) (st.val ⟨rfl, mulT_ok rx.2 _⟩)⟩
theorem xe_mulT {a b : Expr} {pos : Pos} {wa : (Text → S → Prop) → Prop} {wb : S → (Int → S → Prop) → Prop} (ha : XE M O Γ s a (fz pT) wa) (hb : ∀ s', XE M O Γ s' b (fz pI) (wb s')) :
    XE M O Γ s (.BinOp a .Mult b pos) (fz pT) (fun k => wa fun x s1 => wb s1 fun y s2 => MulOk x y ∧ k (mulT x y) s2) := xe_bin (fun i => op_mulT) o_mulT ha hb
theorem All2.reps {p : α → V → Prop} {xs : List α} {vs : List V} (h : All2 p xs vs) : ∀ n : Nat, All2 p (List.replicate n xs).flatten (List.replicate n vs).flatten
  | 0 => trivial
  | n + 1 => by
    rw [List.replicate_succ, List.replicate_succ, List.flatten_cons, List.flatten_cons]
    exact h.append (All2.reps h n)
/-- [..] * n -/
theorem xe_mulL {a b : Expr} {pos : Pos} {wa : (List α → S → Prop) → Prop} {wb : S → (Int → S → Prop) → Prop} (ha : XE M O Γ s a (ol ra) wa) (hb : ∀ s', XE M O Γ s' b (fz pI) (wb s')) :
    XE M O Γ s (.BinOp a .Mult b pos) (ol ra) (fun k => wa fun x s1 => wb s1 fun y s2 => MulOk x y ∧ k (mulT x y) s2) := by
  intro HI C Q σ F H st hq hc
  refine ⟨_, fun i => pe_op op_rep (rdE_ok i) (rdE_ok i), ha HI _ _ σ F H st (fun x s1 u F1 H1 c1 e1 sv1 => ?_) hc⟩
  obtain ⟨hv, h1, h2, ⟨a, vs, ev, eh, al⟩, sa, so, ok⟩ := sv1
  subst ev eh
  have ok1 := ok.freeze
  have ef : Same F1 (upd F1 a (.lst vs)) := same_upd (ok.own _ List.mem_cons_self).2.1
  refine hb s1 HI _ _ σ _ H1 ⟨h1, h2, sa.mono ef, (O s1).mono ef so, ok1⟩ (fun y s2 v F2 H2 c2 e2 sv2 => ?_) c1
  obtain ⟨ry, st2⟩ := sv2.fz
  obtain ⟨⟨z1, z2, z3⟩, c2⟩ := c2
  have hl : vs.length * y.toNat ≤ 1000 * 1000 := by rw [← al.length]; exact Nat.mul_le_mul z1 (by omega)
  refine ⟨a, y, vs, rfl, ry, st2.ok _ _ (e2 _ _ upd_same), by omega, by omega, Nat.le_trans hl (by decide), fun p hp => ?_⟩
  exact hq _ s2 _ F2 _ c2 (e1.trans (ef.trans e2)) (st2.newV hp ⟨p, _, rfl, rfl, All2.reps (al.imp fun _ _ q => ra.mono (ef.trans e2) q) _⟩)
/-! ### max, min, abs -/
def max2 (x y : Int) : Int := if y > x then y else x
def min2 (x y : Int) : Int := if y < x then y else x
def absI (x : Int) : Int := if x < 0 then -x else x
section
variable {p pos : Pos} {e e2 : Expr} {wa : (Int → S → Prop) → Prop} {wb : S → (Int → S → Prop) → Prop}
theorem xe_max2 (hm : mg "max" = none) (ha : XE M O Γ s e (fz pI) wa) (hb : ∀ s', XE M O Γ s' e2 (fz pI) (wb s')) (hg : GlN sc "max" := by rfl) (hs : NoStar e := by intro _ _; rfl) (hs2 : NoStar e2 := by intro _ _; rfl) :
    XE M O Γ s (.Call (.Name "max" p) [e, e2] [] pos) (fz pI) (fun k => wa fun a s1 => wb s1 fun b s2 => k (max2 a b) s2) :=
  xe_cb2 (Wo := fun a b k => k (max2 a b)) b_max (fun i => call_max2 (M.calm i)) (fun O HI Γ s σ F H x y u v C Q st rx ry hq hc => ⟨x, y, by rw [show u = V.int x from rx, show v = V.int y from ry], hq _ _ F H hc (Same.refl _) (st.val rfl)⟩) hm hg ha hb (by decide) (by decide) hs hs2
theorem xe_min2 (hm : mg "min" = none) (ha : XE M O Γ s e (fz pI) wa) (hb : ∀ s', XE M O Γ s' e2 (fz pI) (wb s')) (hg : GlN sc "min" := by rfl) (hs : NoStar e := by intro _ _; rfl) (hs2 : NoStar e2 := by intro _ _; rfl) :
    XE M O Γ s (.Call (.Name "min" p) [e, e2] [] pos) (fz pI) (fun k => wa fun a s1 => wb s1 fun b s2 => k (min2 a b) s2) :=
  xe_cb2 (Wo := fun a b k => k (min2 a b)) b_min (fun i => call_min2 (M.calm i)) (fun O HI Γ s σ F H x y u v C Q st rx ry hq hc => ⟨x, y, by rw [show u = V.int x from rx, show v = V.int y from ry], hq _ _ F H hc (Same.refl _) (st.val rfl)⟩) hm hg ha hb (by decide) (by decide) hs hs2
theorem xe_abs (hm : mg "abs" = none) (ha : XE M O Γ s e (fz pI) wa) (hg : GlN sc "abs" := by rfl) (hs : NoStar e := by intro _ _; rfl) :
    XE M O Γ s (.Call (.Name "abs" p) [e] [] pos) (fz pI) (fun k => wa fun a s1 => k (absI a) s1) :=
  xe_cb1 (Wo := fun a k => k (absI a)) b_abs (fun i => call_abs) (fun O HI Γ s σ F H x u C Q st rx hq hc => ⟨x, by rw [show u = V.int x from rx], hq _ _ F H hc (Same.refl _) (st.val rfl)⟩) hm hg ha (by decide) (by decide) hs
end
/-! ### statements -/
/-- what is never reached -/
theorem xs_never {HI F0 : Hp} {D : Ends} {sts : List Stmt} : XSs M O HI F0 Γ s sts D False := fun _ _ _ _ _ hp => hp.elim
section
variable {HI F0 : Hp} {D : Ends} {e1 e2 : Expr} {x : Str} {p1 p2 pos : Pos} {rest : List Stmt} {xs : List α}
/-- x[e1] = e2, x owned -/
theorem xs_setO {w2 : (α → S → Prop) → Prop} {w1 : S → (Int → S → Prop) → Prop} {Pk : Nat → α → S → Prop} (i : Nat) (hΓ : Γ[i]? = some (some (ol ra xs))) (he2 : XE M O Γ s e2 (fz ra) w2) (he1 : ∀ s', XE M O Γ s' e1 (fz pI) (w1 s'))
    (hk : ∀ n y s', XSs M O HI F0 (Γ.set i (some (ol ra (xs.set n y)))) s' rest D (Pk n y s')) (hN : N[i]? = some x := by rfl) (hv : Vis sc x := by first | exact Or.inl rfl | exact Or.inr (Or.inl rfl) | exact Or.inr (Or.inr rfl))
    (hd : (x == ("__debug__" : Str)) = false := by decide) (hcd : (x == ("__classdict__" : Str)) = false := by decide)
    (hsub : ∀ env v, assign (.Subscript (.Name x p1) e1 p2) env v = (do
      let ov ← holding [v] (eval (.Name x p1) env)
      let iv ← holding [v, ov] (eval e1 env)
      standAt p2
      holding [v, ov, iv] (setItem ov iv v)
      release [v, ov, iv] []) := by intro _ _; rfl)
    (hs : ∀ j, swapsWithSole [.Subscript (.Name x p1) e1 p2] e2 pos.line (M.X j).env = pure false := by intro _; rfl) (hw : ∀ j, swappedStores [.Subscript (.Name x p1) e1 p2] e2 (M.X j).env = pure none := by intro _; rfl) (h1 : ∀ env, (assignEach [.Subscript (.Name x p1) e1 p2] env).map (·.2) = [assign (.Subscript (.Name x p1) e1 p2) env] := by intro _; rfl) :
    XSs M O HI F0 Γ s (.Assign [.Subscript (.Name x p1) e1 p2] e2 pos :: rest) D (w2 fun y s1 => w1 s1 fun j s2 => ∃ n, ixN xs.length j = some n ∧ Pk n y s2) := by
  intro σ F H e0 st hp
  refine ⟨_, fun j => pss_cons (ps_asg (rdE_ok j) (pg_sub (pe_nameO (M := M) (pos := p1) hN hv hd hcd j) (rdE_ok j) set_list (hsub _)) (hs j) (hw j) (h1 _)) (rdSs_ok j), ?_⟩
  refine he2 HI _ _ σ F H st (fun y s1 v F1 H1 c1 ex1 sv1 => ?_) hp
  obtain ⟨rv, st1⟩ := sv1.fz
  obtain ⟨a, vs, ea, eh, al, _⟩ := st1.own hΓ
  refine ⟨.ref a, ea, ?_⟩
  refine he1 s1 HI _ _ σ F1 H1 st1 (fun j s2 iv F2 H2 c2 ex2 sv2 => ?_) c1
  obtain ⟨ri, st2⟩ := sv2.fz
  obtain ⟨n, hn, c⟩ := c2
  obtain ⟨a', vs', ea', eh', al', up⟩ := st2.own hΓ
  rw [ea] at ea'; cases ea'
  refine ⟨a, vs', j, n, rfl, ri, eh', by rw [← al'.length]; exact hn, ?_⟩
  exact hk n y s2 σ F2 _ (e0.trans (ex1.trans ex2)) (up _ _ (al'.set n (ra.mono ex2 rv))) c
end
end
end Sm

set_option Elab.async false
set_option linter.all false
set_option maxRecDepth 100000
set_option maxHeartbeats 4000000
namespace Sm
open PySem PySem.Spec PyProof.Rows L2
section
variable {P : Program} {w : World} {K : PySem.W.Frag} {mg : Str → Option Value} {base : Heap} {N : List Str} {sc : Scope} {fn : Str → Bool} {k : Nat}
variable {M : Fm P w K mg base N sc fn k}
variable {S S1 S2 : Type} {O : S → Res} {O1 : S1 → Res} {Γ : Asrt} {s : S} {α β γ ρ : Type} {ra : RP α} {rb : RP β} {rc : RP γ} {A : ρ → VA}
/-- x[y.pop(e1)] = e2, both owned -/
theorem xs_setPop {HI F0 : Hp} {D : Ends} {e1 e2 : Expr} {x y : Str} {p1 p2 p3 ap cp pos : Pos} {rest : List Stmt} {xs : List α} {ys : List Int} {w2 : (α → S → Prop) → Prop} {w1 : S → (Int → S → Prop) → Prop} {Pk : Nat → Nat → α → S → Prop} (i j : Nat) (hΓ : Γ[i]? = some (some (ol ra xs))) (hΓ2 : Γ[j]? = some (some (ol pI ys))) (he2 : XE M O Γ s e2 (fz ra) w2) (he1 : ∀ s', XE M O Γ s' e1 (fz pI) (w1 s'))
    (hk : ∀ m n z s', XSs M O HI F0 ((Γ.set j (some (ol pI (ys.eraseIdx m)))).set i (some (ol ra (xs.set n z)))) s' rest D (Pk m n z s')) (hij : i ≠ j := by decide) (hN : N[i]? = some x := by rfl) (hv : Vis sc x := by first | exact Or.inl rfl | exact Or.inr (Or.inl rfl) | exact Or.inr (Or.inr rfl))
    (hd : (x == ("__debug__" : Str)) = false := by decide) (hcd : (x == ("__classdict__" : Str)) = false := by decide) (hN2 : N[j]? = some y := by rfl) (hv2 : Vis sc y := by first | exact Or.inl rfl | exact Or.inr (Or.inl rfl) | exact Or.inr (Or.inr rfl))
    (hd2 : (y == ("__debug__" : Str)) = false := by decide) (hcd2 : (y == ("__classdict__" : Str)) = false := by decide) (hns : NoStar e1 := by intro _ _; rfl)
    (hfew : ∀ env, ((backTo cp (starEach [e1] env)).all (fun x => !x.1) && (backToKw cp (keywordEach [] env)).all (fun x => x.1.isSome) && decide ([e1].length + ([] : List Keyword).length + (if ([] : List Keyword).isEmpty then 0 else 1) < 30)) = true := by intro _; rfl)
    (hline : (ap.endLine == cp.line) = true := by rfl)
    (hsub : ∀ env v, assign (.Subscript (.Name x p1) (.Call (.Attribute (.Name y p3) "pop" ap) [e1] [] cp) p2) env v = (do
      let ov ← holding [v] (eval (.Name x p1) env)
      let iv ← holding [v, ov] (eval (.Call (.Attribute (.Name y p3) "pop" ap) [e1] [] cp) env)
      standAt p2
      holding [v, ov, iv] (setItem ov iv v)
      release [v, ov, iv] []) := by intro _ _; rfl)
    (hs : ∀ j, swapsWithSole [.Subscript (.Name x p1) (.Call (.Attribute (.Name y p3) "pop" ap) [e1] [] cp) p2] e2 pos.line (M.X j).env = pure false := by intro _; rfl) (hw : ∀ j, swappedStores [.Subscript (.Name x p1) (.Call (.Attribute (.Name y p3) "pop" ap) [e1] [] cp) p2] e2 (M.X j).env = pure none := by intro _; rfl)
    (h1 : ∀ env, (assignEach [.Subscript (.Name x p1) (.Call (.Attribute (.Name y p3) "pop" ap) [e1] [] cp) p2] env).map (·.2) = [assign (.Subscript (.Name x p1) (.Call (.Attribute (.Name y p3) "pop" ap) [e1] [] cp) p2) env] := by intro _; rfl) :
    XSs M O HI F0 Γ s (.Assign [.Subscript (.Name x p1) (.Call (.Attribute (.Name y p3) "pop" ap) [e1] [] cp) p2] e2 pos :: rest) D (w2 fun z s1 => w1 s1 fun q s2 => (-(2 ^ 63) ≤ q ∧ q < 2 ^ 63) ∧ ∃ m, ixN ys.length q = some m ∧ ∃ t, ys[m]? = some t ∧ ∃ n, ixN xs.length t = some n ∧ Pk m n z s2) := by
  intro σ F H e0 st hp
  refine ⟨_, fun j => pss_cons (ps_asg (rdE_ok j) (pg_sub (pe_nameO (M := M) (pos := p1) hN hv hd hcd j) (by
    have h := pe_bm (X := M.X j) (cpos := cp) PySem.F.plainAttrs_list PySem.F.slot_list_pop PySem.F.type_list_pop mt_popAt (pe_nameO (pos := p3) hN2 hv2 hd2 hcd2 j) (pa_cons (rdE_ok (M := M) j) pa_nil (hns _ _)) rfl (hfew _) hline (hns _ _) rfl
    rw [M.kf j] at h; exact h) set_list (hsub _)) (hs j) (hw j) (h1 _)) (rdSs_ok j), ?_⟩
  refine he2 HI _ _ σ F H st (fun z s1 v F1 H1 c1 ex1 sv1 => ?_) hp
  obtain ⟨rv, st1⟩ := sv1.fz
  obtain ⟨a, vs, ea, eh, al, _⟩ := st1.own hΓ
  refine ⟨.ref a, ea, ?_⟩
  obtain ⟨b, us, eb, ebh, bl, _⟩ := st1.own hΓ2
  refine ⟨.ref b, eb, .inl ⟨rfl, us, SqL.of ebh⟩, ?_⟩
  refine he1 s1 HI _ _ σ F1 H1 st1 (fun q s2 iv F2 H2 c2 ex2 sv2 => ?_) c1
  obtain ⟨ri, st2⟩ := sv2.fz
  obtain ⟨⟨q1, q2⟩, m, hm, t, ht, n, hn, c⟩ := c2
  obtain ⟨b', us', eb', ebh', bl', up⟩ := st2.own hΓ2
  rw [eb] at eb'; cases eb'
  have hm' : ixN us'.length q = some m := by rw [← bl'.length]; exact hm
  obtain ⟨u, hu, ru⟩ := bl'.get ht
  have ru : u = .int t := ru
  subst ru
  refine ⟨b, us', q, m, .int t, rfl, by rw [show iv = V.int q from ri], ebh', q1, q2, (ixN_seq hm').1, hu, ?_⟩
  have st3 := up (ys.eraseIdx m) (us'.eraseIdx m) (bl'.eraseIdx m)
  have hΓ3 : (Γ.set j (some (ol pI (ys.eraseIdx m))))[i]? = some (some (ol ra xs)) := by rw [List.getElem?_set_ne (Ne.symm hij)]; exact hΓ
  obtain ⟨a', vs', ea', eh', al', up'⟩ := st3.own hΓ3
  rw [ea] at ea'; cases ea'
  refine ⟨a, vs', t, n, rfl, rfl, eh', by rw [← al'.length]; exact hn, ?_⟩
  exact hk m n z s2 σ F2 _ (e0.trans (ex1.trans ex2)) (up' _ _ (al'.set n (ra.mono ex2 rv))) c
/-! ### ways out, where a resource is left behind -/
structure Eds (D1 D : Ends) : Prop where
  nx : ∀ σ H, D1.nx σ H → D.nx σ H
  rt : ∀ v H, D1.rt v H → D.rt v H
  bk : ∀ σ H, D1.bk σ H → D.bk σ H
  ct : ∀ σ H, D1.ct σ H → D.ct σ H
/-- a list made here becomes the resource -/
theorem ed_nx {HI F0 : Hp} {Γn : γ → Asrt} {kn : γ → Unit → Prop} : ∀ σ H, nxJ O1 HI F0 Γn (fun g _ => kn g ()) σ H → nxJ (fun _ : Unit => emp) HI F0 Γn kn σ H :=
  fun σ H ⟨g, s, F, q1, q2, h1, h2, a, b, c⟩ => ⟨g, (), F, q1, q2, h1, [], a, rfl, c.sub (List.Sublist.append_left (List.nil_sublist _) _)⟩
theorem ed_rt {HI F0 : Hp} {R : ρ → Unit → Prop} : ∀ v H, rtJ O1 HI F0 A (fun y _ => R y ()) v H → rtJ (fun _ : Unit => emp) HI F0 A R v H :=
  fun v H ⟨y, s5, F5, r5, e5, hv, k1, k2, q1, q2, q3, q4⟩ => ⟨y, (), F5, r5, e5, hv, k1, [], q1, q2, rfl, q4.sub (List.Sublist.append_left (List.Sublist.append_left (List.nil_sublist _) _) _)⟩
theorem ed_fx {HI F0 : Hp} {R : ρ → Unit → Prop} : ∀ (σ : L2.St) H, (fun (_ : L2.St) H' => rtJ O1 HI F0 A (fun y _ => R y ()) .non H') σ H → (fun (_ : L2.St) H' => rtJ (fun _ : Unit => emp) HI F0 A R .non H') σ H := fun _ H h => ed_rt _ H h
theorem ed_no {X : L2.St → Hp → Prop} : ∀ (σ : L2.St) H, (fun (_ : L2.St) (_ : Hp) => False) σ H → X σ H := fun _ _ h => h.elim
theorem xs_adoptE {HI F0 : Hp} {sts : List Stmt} {Pk : Prop} {u : Unit} {y : List α} {D : Ends} {D1 : Addr → Ends} (i : Nat) (I : S2 → List α → Prop) (n : S2) (hΓ : Γ[i]? = some (some (ol ra y))) (hD : ∀ a, Eds (D1 a) D)
    (hk : ∀ a, XSs M (hidR I (resL ra a)) HI F0 (Γ.set i (some (fz pA a))) n sts (D1 a) Pk) : XSs M (fun _ : Unit => emp) HI F0 Γ u sts D (I n y ∧ Pk) := by
  intro σ F H e0 st hp
  obtain ⟨h1, h2, sa, so, ok⟩ := st
  have so : h2 = [] := so
  subst so
  obtain ⟨v, g1, g2, ev, pm, ⟨a, vs, rfl, eg, al⟩, back⟩ := sa.at hΓ
  obtain ⟨h', p', q'⟩ := back F (fz pA a) (.ref a) [] (Same.refl _) ⟨rfl, rfl⟩
  rw [set_same ev] at q'
  refine rdSs_mono (hk a σ F H e0 ⟨h', g1, q', ⟨y, hp.1, vs, eg, al⟩, ok.perm ?_⟩ hp.2) (hD a).nx (hD a).rt (hD a).bk (hD a).ct
  rw [List.append_nil]
  refine pm.trans ?_
  refine (List.perm_append_comm).trans ?_
  exact p'.symm.append_right g1
/-! ### two resources -/
def resP {S1 S2 : Type} (O1 : S1 → Res) (O2 : S2 → Res) (s : S1 × S2) : Res := ⟨fun F h => ∃ g1 g2, h = g1 ++ g2 ∧ (O1 s.1).p F g1 ∧ (O2 s.2).p F g2, fun e ⟨g1, g2, a, b, c⟩ => ⟨g1, g2, a, (O1 s.1).mono e b, (O2 s.2).mono e c⟩⟩
theorem foc_fst {S1 S2 T : Type} {O1 : S1 → Res} {O2 : S2 → Res} {Oz : T → Res} {get : S1 → T} {put : S1 → T → S1} (f : Foc O1 Oz get put) : Foc (resP O1 O2) Oz (fun s => get s.1) (fun s z => (put s.1 z, s.2)) := ⟨fun {s F h} ⟨k1, k2, e, q1, q2⟩ => by
  obtain ⟨g1, g2, pm, o, back⟩ := f.split q1
  refine ⟨g1, g2 ++ k2, ?_, o, fun F' s1 g1' e1 o1 => ?_⟩
  · rw [e, ← List.append_assoc]; exact pm.append_right k2
  · obtain ⟨h', p', q'⟩ := back F' s1 g1' e1 o1
    exact ⟨h' ++ k2, by rw [← List.append_assoc]; exact p'.append_right k2, h', k2, rfl, q', (O2 s.2).mono e1 q2⟩⟩
theorem foc_snd {S1 S2 T : Type} {O1 : S1 → Res} {O2 : S2 → Res} {Oz : T → Res} {get : S2 → T} {put : S2 → T → S2} (f : Foc O2 Oz get put) : Foc (resP O1 O2) Oz (fun s => get s.2) (fun s z => (s.1, put s.2 z)) := ⟨fun {s F h} ⟨k1, k2, e, q1, q2⟩ => by
  obtain ⟨g1, g2, pm, o, back⟩ := f.split q2
  refine ⟨g1, g2 ++ k1, ?_, o, fun F' s1 g1' e1 o1 => ?_⟩
  · rw [e, ← List.append_assoc]; exact List.perm_append_comm.trans (pm.append_right k1)
  · obtain ⟨h', p', q'⟩ := back F' s1 g1' e1 o1
    refine ⟨k1 ++ h', ?_, k1, h', rfl, (O1 s.1).mono e1 q1, q'⟩
    rw [← List.append_assoc]
    exact List.perm_append_comm.trans (p'.append_right k1)⟩
theorem eq_nx {O2 : S2 → Res} {HI F0 : Hp} {Γn : γ → Asrt} {kn : γ → S1 → Prop} : ∀ σ H, nxJ (resP O1 O2) HI F0 Γn (fun g s => kn g s.1) σ H → nxJ O1 HI F0 Γn kn σ H :=
  fun σ H ⟨g, s, F, q1, q2, h1, h2, a, ⟨g1, g2, e, b1, b2⟩, c⟩ => ⟨g, s.1, F, q1, q2, h1, g1, a, b1, c.sub (List.Sublist.append_left (by rw [e]; exact List.sublist_append_left _ _) _)⟩
theorem eq_rt {O2 : S2 → Res} {HI F0 : Hp} {R : ρ → S1 → Prop} : ∀ v H, rtJ (resP O1 O2) HI F0 A (fun y s => R y s.1) v H → rtJ O1 HI F0 A R v H :=
  fun v H ⟨y, s5, F5, r5, e5, hv, k1, k2, q1, q2, ⟨g1, g2, e, b1, b2⟩, q4⟩ => ⟨y, s5.1, F5, r5, e5, hv, k1, g1, q1, q2, b1, q4.sub (List.Sublist.append_left (List.Sublist.append_left (by rw [e]; exact List.sublist_append_left _ _) _) _)⟩
theorem eq_fx {O2 : S2 → Res} {HI F0 : Hp} {R : ρ → S1 → Prop} : ∀ (σ : L2.St) H, (fun (_ : L2.St) H' => rtJ (resP O1 O2) HI F0 A (fun y s => R y s.1) .non H') σ H → (fun (_ : L2.St) H' => rtJ O1 HI F0 A R .non H') σ H := fun _ H h => eq_rt _ H h
/-- a list made here becomes one more resource -/
theorem xs_adoptP {O : S1 → Res} {s : S1} {HI F0 : Hp} {sts : List Stmt} {Pk : Prop} {y : List α} {D : Ends} {D1 : Addr → Ends} (i : Nat) (I : S2 → List α → Prop) (n : S2) (hΓ : Γ[i]? = some (some (ol ra y))) (hD : ∀ a, Eds (D1 a) D)
    (hk : ∀ a, XSs M (resP O (hidR I (resL ra a))) HI F0 (Γ.set i (some (fz pA a))) (s, n) sts (D1 a) Pk) : XSs M O HI F0 Γ s sts D (I n y ∧ Pk) := by
  intro σ F H e0 st hp
  obtain ⟨h1, h2, sa, so, ok⟩ := st
  obtain ⟨v, g1, g2, ev, pm, ⟨a, vs, rfl, eg, al⟩, back⟩ := sa.at hΓ
  obtain ⟨h', p', q'⟩ := back F (fz pA a) (.ref a) [] (Same.refl _) ⟨rfl, rfl⟩
  rw [set_same ev] at q'
  refine rdSs_mono (hk a σ F H e0 ⟨h', h2 ++ g1, q', ⟨h2, g1, rfl, so, y, hp.1, vs, eg, al⟩, ok.perm ?_⟩ hp.2) (hD a).nx (hD a).rt (hD a).bk (hD a).ct
  rw [← List.append_assoc]
  refine (pm.append_right h2).trans ?_
  rw [List.append_assoc]
  refine (List.perm_append_comm).trans ?_
  have p' : h'.Perm g2 := p'
  exact (p'.symm.append_right h2).append_right g1
/-- x.pop(e), x at a known address, as a value -/
theorem xe_resPop {T : Type} {get : S → List α} {put : S → List α → S} {a : Addr} {i : Nat} {x : Str} {p1 ap cp : Pos} {e : Expr} {we : (Int → S → Prop) → Prop} (foc : Foc O (resL ra a) get put) (hΓ : Γ[i]? = some (some (fz pA a))) (he : XE M O Γ s e (fz pI) we) (hN : N[i]? = some x := by rfl) (hv : Vis sc x := by first | exact Or.inl rfl | exact Or.inr (Or.inl rfl) | exact Or.inr (Or.inr rfl))
    (hd : (x == ("__debug__" : Str)) = false := by decide) (hcd : (x == ("__classdict__" : Str)) = false := by decide) (hns : NoStar e := by intro _ _; rfl)
    (hfew : ∀ env, ((backTo cp (starEach [e] env)).all (fun x => !x.1) && (backToKw cp (keywordEach [] env)).all (fun x => x.1.isSome) && decide ([e].length + ([] : List Keyword).length + (if ([] : List Keyword).isEmpty then 0 else 1) < 30)) = true := by intro _; rfl)
    (hline : (ap.endLine == cp.line) = true := by rfl) : XE M O Γ s (.Call (.Attribute (.Name x p1) "pop" ap) [e] [] cp) (fz ra) (fun k => we fun q s1 => (-(2 ^ 63) ≤ q ∧ q < 2 ^ 63) ∧ ∃ m, ixN (get s1).length q = some m ∧ ∃ t, (get s1)[m]? = some t ∧ k t (put s1 ((get s1).eraseIdx m))) := by
  intro HI C Q σ F H st hq hc
  obtain ⟨v, ev, r⟩ := st.slot hΓ
  have r : v = .ref a := r
  subst r
  refine ⟨tBM K "list" rPopAt (tVar i) (tCons (rdE M e) tNil), fun j => (by
    have h := pe_bm (X := M.X j) (cpos := cp) PySem.F.plainAttrs_list PySem.F.slot_list_pop PySem.F.type_list_pop mt_popAt (pe_nameO (pos := p1) hN hv hd hcd j) (pa_cons (rdE_ok (M := M) j) pa_nil (hns _ _)) rfl (hfew _) hline (hns _ _) rfl
    rw [M.kf j] at h; exact h), .ref a, ev, ?_⟩
  obtain ⟨k1, k2, ⟨us, eu, bl⟩, oku, _⟩ := st.res foc
  subst eu
  refine ⟨.inl ⟨rfl, us, SqL.of (oku.own _ List.mem_cons_self).1⟩, ?_⟩
  refine he HI _ _ σ F H st (fun q s1 u F1 H1 c1 e1 sv1 => ?_) hc
  obtain ⟨ru, st1⟩ := sv1.fz
  obtain ⟨⟨q1, q2⟩, m, hm, t, ht, c⟩ := c1
  obtain ⟨g1, g2, ⟨vs, eg, al⟩, ok, back⟩ := st1.res foc
  subst eg
  have hm' : ixN vs.length q = some m := by rw [← al.length]; exact hm
  obtain ⟨z, hz, rz⟩ := al.get ht
  refine ⟨a, vs, q, m, z, rfl, by rw [show u = V.int q from ru], (ok.own _ List.mem_cons_self).1, q1, q2, (ixN_seq hm').1, hz, ?_⟩
  exact hq t _ z F1 _ c e1 ((back F1 _ _ [(a, .lst (vs.eraseIdx m))] (Same.refl _) ⟨_, rfl, al.eraseIdx m⟩ ok.set).val rz)
end
end Sm

set_option Elab.async false
set_option linter.all false
set_option maxRecDepth 100000
set_option maxHeartbeats 4000000
namespace Sm
open PySem PySem.Spec PyProof.Rows L2
theorem sw_subs {a b d e g h : Expr} {c f pt pt2 : Pos} {kt k2 : Nat} {env : Env} : swappedStores [.Tuple [.Subscript a b c, .Subscript d e f] kt pt] (.Tuple [g, h] k2 pt2) env = pure none := by
  unfold swappedStores
  dsimp only
  split
  · rfl
  split
  · rfl
  · rfl
theorem sw_names {x y : Str} {a b : Expr} {px py pt pt2 : Pos} {kt k2 : Nat} {env : Env} (hk : env.scope.kind = .function) (hx : env.scope.names.lookup x = some .local) (hy : env.scope.names.lookup y = some .local) (hl : (py.line == px.line) = true) (hxy : ([x, y].eraseDups.length != 2) = false)
    (hst : ([a, b].any fun | .Starred .. => true | _ => false) = false) (hf : [a, b].all (foldedForSure 8) = false) (hc : [a, b].all (constantsAlone 8) = false) : swappedStores [.Tuple [.Name x px, .Name y py] kt pt] (.Tuple [a, b] k2 pt2) env = pure (some [x, y]) := by
  have kx : env.kindOf x = some .local := hx
  have ky : env.kindOf y = some .local := hy
  have hb : env.blockKind = .function := by unfold Env.blockKind; rw [hk]; rfl
  unfold swappedStores
  dsimp only
  have e1 : (!([Expr.Name x px, Expr.Name y py].length == 2 || [Expr.Name x px, Expr.Name y py].length == 3) || [a, b].length != [Expr.Name x px, Expr.Name y py].length || env.blockKind != .function) = false := by rw [hb]; rfl
  rw [if_neg (by rw [e1]; exact Bool.false_ne_true)]
  rw [if_neg (by intro q; exact Bool.false_ne_true (hst.symm.trans q))]
  have hl' := eq_of_beq hl
  simp only [List.filterMap_cons, List.filterMap_nil, kx, ky, Expr.pos, List.head?_cons, Option.map_some, Option.getD_some, hl', beq_self_eq_true, Bool.and_self, if_true, hf, hc]
  rw [if_neg (by intro q; simp only [List.length_cons, List.length_nil] at q hxy; rw [hxy] at q; exact absurd q (by decide))]
  rfl
section
variable {P : Program} {w : World} {K : PySem.W.Frag} {mg : Str → Option Value} {base : Heap} {N : List Str} {sc : Scope} {fn : Str → Bool} {k : Nat}
variable {M : Fm P w K mg base N sc fn k}
variable {S : Type} {O : S → Res} {Γ : Asrt} {s : S} {α β γ ρ : Type} {ra : RP α} {rb : RP β} {rc : RP γ} {A : ρ → VA}
/-- x[i1], x[i2] = a pair; x owned -/
theorem xs_setO2 {HI F0 : Hp} {D : Ends} {i1 i2 e : Expr} {x : Str} {p1 p2 p3 p4 pt pos : Pos} {kt : Nat} {rest : List Stmt} {xs : List α} {W : (α × α → S → Prop) → Prop} {w1 w2 : S → (Int → S → Prop) → Prop} {Pk : Nat → Nat → α × α → S → Prop} (i : Nat) (hΓ : Γ[i]? = some (some (ol ra xs))) (he : XE M O Γ s e (fz (pP K ra ra)) W) (h1 : ∀ s', XE M O Γ s' i1 (fz pI) (w1 s')) (h2 : ∀ n z s', XE M O (Γ.set i (some (ol ra (xs.set n z)))) s' i2 (fz pI) (w2 s'))
    (hk : ∀ n m y s', XSs M O HI F0 (Γ.set i (some (ol ra ((xs.set n y.1).set m y.2)))) s' rest D (Pk n m y s')) (hN : N[i]? = some x := by rfl) (hv : Vis sc x := by first | exact Or.inl rfl | exact Or.inr (Or.inl rfl) | exact Or.inr (Or.inr rfl))
    (hd : (x == ("__debug__" : Str)) = false := by decide) (hcd : (x == ("__classdict__" : Str)) = false := by decide)
    (hsub1 : ∀ env v, assign (.Subscript (.Name x p1) i1 p2) env v = (do
      let ov ← holding [v] (eval (.Name x p1) env)
      let iv ← holding [v, ov] (eval i1 env)
      standAt p2
      holding [v, ov, iv] (setItem ov iv v)
      release [v, ov, iv] []) := by intro _ _; rfl)
    (hsub2 : ∀ env v, assign (.Subscript (.Name x p3) i2 p4) env v = (do
      let ov ← holding [v] (eval (.Name x p3) env)
      let iv ← holding [v, ov] (eval i2 env)
      standAt p4
      holding [v, ov, iv] (setItem ov iv v)
      release [v, ov, iv] []) := by intro _ _; rfl)
    (hs : ∀ j, swapsWithSole [.Tuple [.Subscript (.Name x p1) i1 p2, .Subscript (.Name x p3) i2 p4] kt pt] e pos.line (M.X j).env = pure false := by intro _; rfl) (hw : ∀ j, swappedStores [.Tuple [.Subscript (.Name x p1) i1 p2, .Subscript (.Name x p3) i2 p4] kt pt] e (M.X j).env = pure none := by intro _; first | rfl | exact sw_subs)
    (hx1 : ∀ env, (assignEach [.Tuple [.Subscript (.Name x p1) i1 p2, .Subscript (.Name x p3) i2 p4] kt pt] env).map (·.2) = [assign (.Tuple [.Subscript (.Name x p1) i1 p2, .Subscript (.Name x p3) i2 p4] kt pt) env] := by intro _; rfl)
    (hx2 : ∀ env, (assignEach [.Subscript (.Name x p1) i1 p2, .Subscript (.Name x p3) i2 p4] env).map (·.2) = assign (.Subscript (.Name x p1) i1 p2) env :: (assignEach [.Subscript (.Name x p3) i2 p4] env).map (·.2) := by intro _; rfl)
    (hx3 : ∀ env, (assignEach [.Subscript (.Name x p3) i2 p4] env).map (·.2) = assign (.Subscript (.Name x p3) i2 p4) env :: (assignEach [] env).map (·.2) := by intro _; rfl)
    (hx4 : ∀ env, (assignEach [.Subscript (.Name x p1) i1 p2, .Subscript (.Name x p3) i2 p4] env).length = 2 := by intro _; rfl) (hx5 : ∀ env, (assignEach [.Subscript (.Name x p1) i1 p2, .Subscript (.Name x p3) i2 p4] env).findIdx? (·.1) = none := by intro _; rfl) :
    XSs M O HI F0 Γ s (.Assign [.Tuple [.Subscript (.Name x p1) i1 p2, .Subscript (.Name x p3) i2 p4] kt pt] e pos :: rest) D (W fun y s1 => w1 s1 fun j s2 => ∃ n, ixN xs.length j = some n ∧ w2 s2 fun j2 s3 => ∃ m, ixN xs.length j2 = some m ∧ Pk n m y s3) := by
  intro σ F H e0 st hp
  refine ⟨tSeq (tAsg (rdE M e) (gTup K 2 (gCons (gSub (tVar i) (rdE M i1) rSetL) (gCons (gSub (tVar i) (rdE M i2) rSetL) gNil)))) (rdSs M rest), fun j => pss_cons (ps_asg (rdE_ok j) (by
    have h := pg_tup (pos := pt) (k := kt) (M.calm j) (pgs_cons (pg_sub (pe_nameO (M := M) (pos := p1) hN hv hd hcd j) (rdE_ok j) set_list (hsub1 _)) (pgs_cons (pg_sub (pe_nameO (M := M) (pos := p3) hN hv hd hcd j) (rdE_ok j) set_list (hsub2 _)) pgs_nil (hx3 _)) (hx2 _)) (hx4 _) (hx5 _)
    rw [M.kf j] at h; exact h) (hs j) (hw j) (hx1 _)) (rdSs_ok j), ?_⟩
  refine he HI _ _ σ F H st (fun y s1 v F1 H1 c1 ex1 sv1 => ?_) hp
  obtain ⟨⟨at1, u1, u2, ev, hq, r1, r2⟩, st1⟩ := sv1.fz
  subst ev
  refine ⟨at1, [u1, u2], rfl, SqT.mono st1.ok hq, rfl, u1, [u2], rfl, ?_⟩
  obtain ⟨a, vs, ea, eh, al, _⟩ := st1.own hΓ
  refine ⟨.ref a, ea, ?_⟩
  refine h1 s1 HI _ _ σ F1 H1 st1 (fun j s2 iv F2 H2 c2 ex2 sv2 => ?_) c1
  obtain ⟨ri, st2⟩ := sv2.fz
  obtain ⟨n, hn, c⟩ := c2
  obtain ⟨a', vs', ea', eh', al', up⟩ := st2.own hΓ
  rw [ea] at ea'; cases ea'
  refine ⟨a, vs', j, n, rfl, ri, eh', by rw [← al'.length]; exact hn, u2, [], rfl, ?_⟩
  have st3 := up (xs.set n y.1) (vs'.set n u1) (al'.set n (ra.mono ex2 r1))
  refine ⟨.ref a, ea, ?_⟩
  refine h2 n y.1 s2 HI _ _ σ F2 _ st3 (fun j2 s3 iv2 F3 H3 c3 ex3 sv3 => ?_) c
  obtain ⟨ri2, st4⟩ := sv3.fz
  obtain ⟨m, hm, c⟩ := c3
  have hi : i < Γ.length := (List.getElem?_eq_some_iff.mp hΓ).1
  obtain ⟨a'', ws, ea'', eh'', al'', up'⟩ := st4.own (i := i) (xs := xs.set n y.1) (by rw [List.getElem?_set_self hi])
  rw [ea] at ea''; cases ea''
  refine ⟨a, ws, j2, m, rfl, ri2, eh'', by rw [← al''.length, List.length_set]; exact hm, rfl, ?_⟩
  have st5 := up' ((xs.set n y.1).set m y.2) _ (al''.set m (ra.mono (ex2.trans ex3) r2))
  rw [List.set_set] at st5
  exact hk n m y s3 σ F3 _ (e0.trans (ex1.trans (ex2.trans ex3))) st5 c
/-- x, y = a, b: two names -/
theorem xs_par {HI F0 : Hp} {D : Ends} {a b : Expr} {x y : Str} {px py pt pt2 pos : Pos} {kt k2 : Nat} {rest : List Stmt} {wa : (α → S → Prop) → Prop} {wb : S → (β → S → Prop) → Prop} {Pk : α → β → S → Prop} (i j : Nat) (ha : XE M O Γ s a (fz ra) wa) (hb : ∀ s', XE M O Γ s' b (fz rb) (wb s'))
    (hk : ∀ z1 z2 s', XSs M O HI F0 ((Γ.set i (some (fz ra z1))).set j (some (fz rb z2))) s' rest D (Pk z1 z2 s')) (hN : N[i]? = some x := by rfl) (hN2 : N[j]? = some y := by rfl) (hij : i ≠ j := by decide) (hx : sc.names.lookup x = some .local := by rfl) (hy : sc.names.lookup y = some .local := by rfl) (hkd : sc.kind = .function := by rfl) (hΓ : Γ.length = N.length := by rfl)
    (hl : (py.line == px.line) = true := by rfl) (hxy : ([x, y].eraseDups.length != 2) = false := by decide +kernel) (hst : ([a, b].any fun | .Starred .. => true | _ => false) = false := by rfl) (hf : [a, b].all (foldedForSure 8) = false := by rfl) (hc : [a, b].all (constantsAlone 8) = false := by rfl) (na : NoStar a := by intro _ _; rfl) (nb : NoStar b := by intro _ _; rfl)
    (hs : ∀ j, swapsWithSole [.Tuple [.Name x px, .Name y py] kt pt] (.Tuple [a, b] k2 pt2) pos.line (M.X j).env = pure false := by intro _; rfl) :
    XSs M O HI F0 Γ s (.Assign [.Tuple [.Name x px, .Name y py] kt pt] (.Tuple [a, b] k2 pt2) pos :: rest) D (wa fun z1 s1 => wb s1 fun z2 s2 => Pk z1 z2 s2) := by
  intro σ F H e0 st hp
  have hi : i < N.length := (List.getElem?_eq_some_iff.mp hN).1
  have hj : j < N.length := (List.getElem?_eq_some_iff.mp hN2).1
  refine ⟨_, fun q => pss_cons (ps_par (i := i) (j := j) (M.calm q) (by rw [M.nn]; exact M.nd) (by rw [M.nn]; exact hN) (by rw [M.nn]; exact hN2) hij (by rw [M.scp]; exact hx) (by rw [M.scp]; exact hy) (pa_cons (rdE_ok q) (pa_cons (rdE_ok q) pa_nil (nb _ _)) (na _ _)) (sw_names (by rw [M.scp]; exact hkd) (by rw [M.scp]; exact hx) (by rw [M.scp]; exact hy) hl hxy hst hf hc) (hs q)) (rdSs_ok q), ?_⟩
  refine two ha hb st (R := fun u v H2 => _) (fun z1 z2 s' u v F' H' c e r1 r2 st' => ?_) hp
  refine ⟨u, v, rfl, ?_⟩
  have st1 := Stt.put (i := i) (st'.val r1) (by rw [hΓ]; exact hi)
  have st2 := Stt.put (i := j) (st1.val r2) (by rw [List.length_set, hΓ]; exact hj)
  exact hk z1 z2 s' _ F' H' (e0.trans e) st2 c
variable {S1 S2 : Type}
theorem xs_adoptF {HI F0 : Hp} {sts : List Stmt} {R : ρ → Unit → Prop} {Pk : Prop} {u : Unit} {y : List α} (i : Nat) (I : S2 → List α → Prop) (n : S2) (hΓ : Γ[i]? = some (some (ol ra y)))
    (hk : ∀ a, XSs M (hidR I (resL ra a)) HI F0 (Γ.set i (some (fz pA a))) n sts { nx := fun _ H' => rtJ (hidR I (resL ra a)) HI F0 A (fun y _ => R y ()) .non H', rt := rtJ (hidR I (resL ra a)) HI F0 A (fun y _ => R y ()), bk := fun _ _ => False, ct := fun _ _ => False } Pk) :
    XSs M (fun _ : Unit => emp) HI F0 Γ u sts { nx := fun _ H' => rtJ (fun _ : Unit => emp) HI F0 A R .non H', rt := rtJ (fun _ : Unit => emp) HI F0 A R, bk := fun _ _ => False, ct := fun _ _ => False } (I n y ∧ Pk) := xs_adopt i I n hΓ hk
theorem xs_adoptL {HI F0 F1 F2 : Hp} {sts : List Stmt} {R : ρ → Unit → Prop} {Pk : Prop} {u : Unit} {y : List α} {Γn : γ → Asrt} {Γb : β → Asrt} {kn : γ → Unit → Prop} {kb : β → Unit → Prop} (i : Nat) (I : S2 → List α → Prop) (n : S2) (hΓ : Γ[i]? = some (some (ol ra y)))
    (hk : ∀ a, XSs M (hidR I (resL ra a)) HI F1 (Γ.set i (some (fz pA a))) n sts { nx := nxJ (hidR I (resL ra a)) HI F1 Γn (fun g _ => kn g ()), rt := rtJ (hidR I (resL ra a)) HI F0 A (fun y _ => R y ()), bk := nxJ (hidR I (resL ra a)) HI F2 Γb (fun g _ => kb g ()), ct := nxJ (hidR I (resL ra a)) HI F1 Γn (fun g _ => kn g ()) } Pk) :
    XSs M (fun _ : Unit => emp) HI F1 Γ u sts { nx := nxJ (fun _ : Unit => emp) HI F1 Γn kn, rt := rtJ (fun _ : Unit => emp) HI F0 A R, bk := nxJ (fun _ : Unit => emp) HI F2 Γb kb, ct := nxJ (fun _ : Unit => emp) HI F1 Γn kn } (I n y ∧ Pk) :=
  xs_adoptE (M := M) i I n hΓ (fun a => ⟨ed_nx, ed_rt, ed_nx, ed_nx⟩) hk
/-- one more resource, in a loop and in a def -/
theorem xs_adopt2F {O : S1 → Res} {s : S1} {HI F0 : Hp} {sts : List Stmt} {R : ρ → S1 → Prop} {Pk : Prop} {y : List α} (i : Nat) (I : S2 → List α → Prop) (n : S2) (hΓ : Γ[i]? = some (some (ol ra y)))
    (hk : ∀ a, XSs M (resP O (hidR I (resL ra a))) HI F0 (Γ.set i (some (fz pA a))) (s, n) sts { nx := fun _ H' => rtJ (resP O (hidR I (resL ra a))) HI F0 A (fun y s => R y s.1) .non H', rt := rtJ (resP O (hidR I (resL ra a))) HI F0 A (fun y s => R y s.1), bk := fun _ _ => False, ct := fun _ _ => False } Pk) :
    XSs M O HI F0 Γ s sts { nx := fun _ H' => rtJ O HI F0 A R .non H', rt := rtJ O HI F0 A R, bk := fun _ _ => False, ct := fun _ _ => False } (I n y ∧ Pk) :=
  xs_adoptP (M := M) i I n hΓ (fun a => ⟨eq_fx, eq_rt, ed_no, ed_no⟩) hk
theorem xs_adopt2L {O : S1 → Res} {s : S1} {HI F0 F1 F2 : Hp} {sts : List Stmt} {R : ρ → S1 → Prop} {Pk : Prop} {y : List α} {Γn : γ → Asrt} {Γb : β → Asrt} {kn : γ → S1 → Prop} {kb : β → S1 → Prop} (i : Nat) (I : S2 → List α → Prop) (n : S2) (hΓ : Γ[i]? = some (some (ol ra y)))
    (hk : ∀ a, XSs M (resP O (hidR I (resL ra a))) HI F1 (Γ.set i (some (fz pA a))) (s, n) sts { nx := nxJ (resP O (hidR I (resL ra a))) HI F1 Γn (fun g s => kn g s.1), rt := rtJ (resP O (hidR I (resL ra a))) HI F0 A (fun y s => R y s.1), bk := nxJ (resP O (hidR I (resL ra a))) HI F2 Γb (fun g s => kb g s.1), ct := nxJ (resP O (hidR I (resL ra a))) HI F1 Γn (fun g s => kn g s.1) } Pk) :
    XSs M O HI F1 Γ s sts { nx := nxJ O HI F1 Γn kn, rt := rtJ O HI F0 A R, bk := nxJ O HI F2 Γb kb, ct := nxJ O HI F1 Γn kn } (I n y ∧ Pk) :=
  xs_adoptP (M := M) i I n hΓ (fun a => ⟨eq_nx, eq_rt, eq_nx, eq_nx⟩) hk
end
end Sm

set_option Elab.async false
set_option linter.all false
set_option maxRecDepth 100000
set_option maxHeartbeats 4000000
namespace Sm
open PySem PySem.Spec PyProof.Rows L2
section
variable {P : Program} {w : World} {K : PySem.W.Frag} {mg : Str → Option Value} {base : Heap} {N : List Str} {sc : Scope} {fn : Str → Bool} {k : Nat}
variable {M : Fm P w K mg base N sc fn k}
variable {S : Type} {O : S → Res} {Γ : Asrt} {s : S} {α β γ ρ : Type} {ra : RP α} {rb : RP β} {rc : RP γ} {A : ρ → VA}
theorem xe_isaO {x : Str} {T U : String} {b : Bool} {e : Expr} {p p' pos : Pos} {wa : (Option α → S → Prop) → Prop} (hI : Isa K ra T) (hk : kitB T U = some b) (hk0 : kitB "NoneType" U = some false) (hv : bootBuiltins x = some (.type U)) (hm : mg "isinstance" = none) (hm2 : mg x = none) (ha : XE M O Γ s e (fz (pO ra)) wa) (hg : GlN sc "isinstance" := by rfl) (hg2 : GlN sc x := by rfl)
    (hn : x ≠ "__name__" := by decide) (hdb : (x == ("__debug__" : Str)) = false := by decide) (hs : NoStar e := by intro _ _; rfl) :
    XE M O Γ s (.Call (.Name "isinstance" p) [e, .Name x p'] [] pos) (fz pB) (fun k => wa fun y s1 => k (y.isSome && b) s1) := by
  intro HI C Q σ F H st hq hc
  refine ⟨_, fun i => pe_callB (by have h := call_isi (X := M.X i); rw [M.kf i] at h; exact h) (Gl.of hg i) (M.none hm i) b_isinstance (pa_cons (rdE_ok i) (pa_cons (pe_bltn (v := .ty U) (Gl.of hg2 i) (M.none hm2 i) hv rfl hn hdb) pa_nil rfl) (hs _ _)) (by decide) (by decide) (hs _ _) rfl, ?_⟩
  refine ha HI _ _ σ F H st (fun y s1 u F1 H1 c1 e1 sv1 => ?_) hc
  obtain ⟨rx, st1⟩ := sv1.fz
  cases y with
  | none => exact ⟨u, .ty U, .type "NoneType", .type U, false, rfl, .ty U, by rw [show u = V.non from rx]; exact .base .non, kit_ty hk0, hq _ s1 _ F1 H1 c1 e1 (st1.val rfl)⟩
  | some y => exact ⟨u, .ty U, .type T, .type U, b, rfl, .ty U, hI st1.ok rx.2, kit_ty hk, hq _ s1 _ F1 H1 c1 e1 (st1.val rfl)⟩
end
theorem SpF.imp {αs ρ ad S : Type} {PA : ad → αs → List VA} {O : ad → S → Res} {A : ρ → VA} {m1 m2 : αs → S → (ρ → S → Prop) → Prop} (hm : ∀ x s C, m2 x s C → m1 x s C) {vs : List V} {H : Hp} {Q : VK} {E : XK} (h : SpF ad PA O A m2 vs H Q E) : SpF ad PA O A m1 vs H Q E := by
  obtain ⟨a, x, s, F, HI, h2, av, ho, ok, C, hC, hw⟩ := h
  exact ⟨a, x, s, F, HI, h2, av, ho, ok, C, hC, hm _ _ _ hw⟩
/-- a def that calls itself, by depth -/
theorem rec_has {P : Program} {w : World} {K : PySem.W.Frag} {mg : Str → Option Value} {base : Heap} {x : Str} {f : Addr} {fd : FuncData} {ps : List Str} {sp : Nat → Sp} (j0 : Nat) (hm : mg x = some (.ref f)) (hk : PySem.W.keepIn K (.ref f) = true) (hb : Binds K fd ps []) (h0 : FnOk P w K mg base CX0 j0 f fd ps (sp 0))
    (step : ∀ n, Has P w K mg base x (j0 + n) ps (sp n) → FnOk P w K mg base CX0 (j0 + n + 1) f fd ps (sp (n + 1))) : ∀ n, Has P w K mg base x (j0 + n) ps (sp n)
  | 0 => ⟨f, fd, hm, hk, hb, h0⟩
  | n + 1 => ⟨f, fd, hm, hk, hb, step n (rec_has j0 hm hk hb h0 step n)⟩
end Sm

set_option Elab.async false
set_option linter.all false
set_option maxRecDepth 100000
set_option maxHeartbeats 4000000
namespace Sm
open PySem PySem.Spec PyProof.Rows L2
/-! ### xs[::-1] -/
def tRev (K : PySem.W.Frag) (te tk : TE) : TE := fun σ H Q => te σ H fun x H1 => tPart tk σ H1 fun o H2 => o = some (-1) ∧ ∃ a xs, x = .ref a ∧ SqL K H2 a xs ∧ ∀ p, H2 p = none → Q (.ref p) (upd H2 p (.lst xs.reverse))
theorem pe_rev {X : Cx} {e kx : Expr} {te tk : TE} {p2 pos : Pos} (he : PE X e te) (hk : PE X kx tk) (hsub : ∀ a b : Addr, subscripted (.Slice none none (some kx) p2) false (.ref a) (.ref b) = operate [.ref a, .ref b] (getItem (.ref a) (.ref b)) := by intro _ _; rfl) : PE X (.Subscript e (.Slice none none (some kx) p2) pos) (tRev X.K te tk) := by
  refine ⟨fun pins s σ H Q I h => ?_⟩
  refine Subscript_ (thn (he.run pins s σ H _ I h) fun v s1 ⟨x, H1, I1, r1, q1⟩ => ?_)
  refine wpAny_Slice ?_
  rw [evalPart_none]
  refine wpAny_pure (wpAny_pure ?_)
  refine thn ((po_some hk).run pins s1 σ H1 _ I1 q1) fun vk s3 ⟨o, H3, I3, pk, eo, a, xs, ex, hx, q⟩ => ?_
  subst eo ex
  cases r1
  have I4 : Inv X pins σ H3 { s3 with heap := s3.heap.push { cls := .type "slice", data := .fields #[.none, .none, vk] } } := I3.kept (t' := s3.toks) fun b ob q => Heap.get?_push_of_some _ q
  obtain ⟨its, r, ht, hz⟩ := I4.list hx
  have hlen := r.length
  refine tail_any (ops := [.ref a, .ref s3.heap.objs.size]) ht.isList.typeIs slot_list_getitem.lookup ?_ (hsub _ _)
  refine wpAny_getItem_list_slice ht.isList (Heap.IsSliceOf.new ..) .none .none pk (by simp) ?_ (by rw [List.size_toArray] <;> omega)
  rw [PySem.W.krv_pick]
  refine ⟨.ref _, _, I4.laid (t' := s3.toks) (o := .lst xs.reverse) (fun b ob q => Heap.get?_push_of_some _ q) (Nat.le_refl _) ?_, rfl, q _ (I4.hok.fresh (Nat.le_refl _))⟩
  exact ⟨by rw [List.length_reverse]; exact hz, _, 0, r.reverse, Heap.get?_push_size _ rfl⟩
section
variable {P : Program} {w : World} {K : PySem.W.Frag} {mg : Str → Option Value} {base : Heap} {N : List Str} {sc : Scope} {fn : Str → Bool} {k : Nat}
variable {M : Fm P w K mg base N sc fn k}
variable {S : Type} {O : S → Res} {Γ : Asrt} {s : S} {α β γ ρ : Type} {ra : RP α} {rb : RP β} {rc : RP γ} {A : ρ → VA}
theorem xe_revL {e : Expr} {j1 : Nat} {p0 p1 p2 pos : Pos} {wa : (List α → S → Prop) → Prop} (he : XE M O Γ s e (fz (pL K ra)) wa) :
    XE M O Γ s (.Subscript e (.Slice none none (some (.UnaryOp .USub (.Constant (.int 1) j1 p0) p1)) p2) pos) (ol ra) (fun k => wa fun x s1 => k x.reverse s1) := by
  intro HI C Q σ F H st hq hc
  refine ⟨tRev K (rdE M e) (rdE M (.UnaryOp .USub (.Constant (.int 1) j1 p0) p1)), fun i => (by have h := pe_rev (X := M.X i) (p2 := p2) (pos := pos) (rdE_ok (M := M) i (e := e)) (rdE_ok (M := M) i (e := .UnaryOp .USub (.Constant (.int 1) j1 p0) p1)); rw [M.kf i] at h; exact h), ?_⟩
  refine he HI _ _ σ F H st (fun x s1 v F1 H1 c1 e1 sv1 => ?_) hc
  obtain ⟨⟨a, vs, ea, hs, al⟩, st1⟩ := sv1.fz
  refine xe_neg (M := M) (O := O) (Γ := Γ) (s := s1) (pos := p1) (xe_int (j := j1) (pos := p0)) HI (fun z s2 => z = -1 ∧ s2 = s1) _ σ F1 H1 st1 (fun z s2 u F2 H2 c2 e2 sv2 => ?_) ⟨rfl, rfl⟩
  obtain ⟨ez, es⟩ := c2
  subst ez es
  obtain ⟨rz, st2⟩ := sv2.fz
  refine ⟨-1, rz, rfl, a, vs, ea, SqL.mono (e2.trans st2.ok) hs, fun p hp => ?_⟩
  exact hq _ s2 _ F2 _ c1 (e1.trans e2) (st2.newV hp ⟨p, _, rfl, rfl, (al.imp fun _ _ q => ra.mono e2 q).reverse⟩)
/-- t[0], t[1] of a pair -/
theorem xe_pick2_0 {a : Expr} {j0 : Nat} {p0 pos : Pos} {wa : (α × β → S → Prop) → Prop} (ha : XE M O Γ s a (fz (pP K ra rb)) wa) : XE M O Γ s (.Subscript a (.Constant (.int 0) j0 p0) pos) (fz ra) (fun k => wa fun x s1 => k x.1 s1) := by
  intro HI C Q σ F H st hq hc
  refine ⟨_, fun i => pe_ix (by have h := ix_tup (X := M.X i); rw [M.kf i] at h; exact h) (rdE_ok i) (rdE_ok i) (by intro _ _; rfl), ?_⟩
  refine ha HI _ _ σ F H st (fun x s1 v F1 H1 c1 e1 sv1 => ?_) hc
  obtain ⟨⟨t, u1, u2, ev, hs, r1, r2⟩, st1⟩ := sv1.fz
  refine xe_int (M := M) (O := O) (Γ := Γ) (s := s1) (i := 0) HI (fun z s2 => z = 0 ∧ s2 = s1) _ σ F1 H1 st1 (fun z s2 u F2 H2 c2 e2 sv2 => ?_) ⟨rfl, rfl⟩
  obtain ⟨ez, es⟩ := c2
  subst ez es
  obtain ⟨rz, st2⟩ := sv2.fz
  exact ⟨t, [u1, u2], 0, u1, ev, rz, SqT.mono (e2.trans st2.ok) hs, rfl, hq _ s2 _ F2 _ c1 (e1.trans e2) (st2.val (ra.mono e2 r1))⟩
theorem xe_pick2_1 {a : Expr} {j0 : Nat} {p0 pos : Pos} {wa : (α × β → S → Prop) → Prop} (ha : XE M O Γ s a (fz (pP K ra rb)) wa) : XE M O Γ s (.Subscript a (.Constant (.int 1) j0 p0) pos) (fz rb) (fun k => wa fun x s1 => k x.2 s1) := by
  intro HI C Q σ F H st hq hc
  refine ⟨_, fun i => pe_ix (by have h := ix_tup (X := M.X i); rw [M.kf i] at h; exact h) (rdE_ok i) (rdE_ok i) (by intro _ _; rfl), ?_⟩
  refine ha HI _ _ σ F H st (fun x s1 v F1 H1 c1 e1 sv1 => ?_) hc
  obtain ⟨⟨t, u1, u2, ev, hs, r1, r2⟩, st1⟩ := sv1.fz
  refine xe_int (M := M) (O := O) (Γ := Γ) (s := s1) (i := 1) HI (fun z s2 => z = 1 ∧ s2 = s1) _ σ F1 H1 st1 (fun z s2 u F2 H2 c2 e2 sv2 => ?_) ⟨rfl, rfl⟩
  obtain ⟨ez, es⟩ := c2
  subst ez es
  obtain ⟨rz, st2⟩ := sv2.fz
  exact ⟨t, [u1, u2], 1, u2, ev, rz, SqT.mono (e2.trans st2.ok) hs, rfl, hq _ s2 _ F2 _ c1 (e1.trans e2) (st2.val (rb.mono e2 r2))⟩
/-- xs.index(y): it is there -/
theorem xe_index [DecidableEq α] {a b : Expr} {ap cp : Pos} {wa : (List α → S → Prop) → Prop} {wb : S → (α → S → Prop) → Prop} (f : Flt ra) (ha : XE M O Γ s a (fz (pL K ra)) wa) (hb : ∀ s', XE M O Γ s' b (fz ra) (wb s')) (hns : NoStar b := by intro _ _; rfl)
    (hbase : ∀ env, attributeBase a "index" env (eval a env) = eval a env := by intro _; rfl)
    (hfew : ∀ env, ((backTo cp (starEach [b] env)).all (fun x => !x.1) && (backToKw cp (keywordEach [] env)).all (fun x => x.1.isSome) && decide ([b].length + ([] : List Keyword).length + (if ([] : List Keyword).isEmpty then 0 else 1) < 30)) = true := by intro _; rfl)
    (hline : (ap.endLine == cp.line) = true := by rfl) :
    XE M O Γ s (.Call (.Attribute a "index" ap) [b] [] cp) (fz pI) (fun k => wa fun x s1 => wb s1 fun y s2 => ∃ j : Nat, x[j]? = some y ∧ (∀ m, m < j → x[m]? ≠ some y) ∧ k (j : Int) s2) := by
  intro HI C Q σ F H st hq hc
  refine ⟨tBM K "list" (rIndex K) (rdE M a) (tCons (rdE M b) tNil), fun i => (by
    have h := pe_bm (X := M.X i) (cpos := cp) PySem.F.plainAttrs_list PySem.F.slot_list_index PySem.F.type_list_index mt_index (rdE_ok (M := M) i) (pa_cons (rdE_ok (M := M) i) pa_nil (hns _ _)) (hbase _) (hfew _) hline (hns _ _) rfl
    rw [M.kf i] at h; exact h), ?_⟩
  refine ha HI _ _ σ F H st (fun x s1 v F1 H1 c1 e1 sv1 => ?_) hc
  obtain ⟨⟨l, vs, ev, hs, al⟩, st1⟩ := sv1.fz
  subst ev
  refine ⟨.inl ⟨rfl, vs, SqL.mono st1.ok hs⟩, ?_⟩
  refine hb s1 HI _ _ σ F1 H1 st1 (fun y s2 u F2 H2 c2 e2 sv2 => ?_) c1
  obtain ⟨ru, st2⟩ := sv2.fz
  obtain ⟨j, hj, hno, c⟩ := c2
  have al2 : All2 (fun x v => ra.r x v F2) x vs := al.imp fun _ _ q => ra.mono e2 q
  obtain ⟨z, hz, rz⟩ := al2.get hj
  refine ⟨l, vs, u, j, z, rfl, rfl, SqL.mono (e2.trans st2.ok) hs, f.flat ru, f.all al2, hz, by rw [f.eq rz ru]; exact decide_eq_true rfl, fun m z' hm hz' => ?_, hq _ s2 _ F2 H2 c (e1.trans e2) (st2.val rfl)⟩
  have hml : m < x.length := by rw [al2.length]; exact (List.getElem?_eq_some_iff.mp hz').1
  obtain ⟨z2, hz2, rz2⟩ := al2.get (List.getElem?_eq_getElem hml)
  rw [hz'] at hz2
  cases hz2
  rw [f.eq rz2 ru]
  refine decide_eq_false fun e => hno m hm ?_
  rw [List.getElem?_eq_getElem hml, e]
end
end Sm

set_option Elab.async false
set_option linter.all false
set_option maxRecDepth 100000
set_option maxHeartbeats 4000000
namespace Sm
open PySem PySem.Spec PyProof.Rows L2
open PySem.W (AllAlike dataLe EachIs)
/-! ### sorted(xs), any data that compare -/
def rSrt (K : PySem.W.Frag) : List V → Hp → VK → Prop := fun args H Q => ∃ (a : Addr) (bs : List (V × PyData)), args = [V.ref a] ∧ SqL K H a (bs.map (·.1)) ∧ DpAll K H (bs.map (·.1)) (bs.map (·.2)) ∧ AllAlike (bs.map (·.2)) ∧ PySem.W.Sortable (bs.map (·.2)) ∧ (∀ b ∈ bs, b.2.depth ≤ 60) ∧
  ∀ p, H p = none → Q (.ref p) (upd H p (.lst ((bs.mergeSort (dataLe false fun b => b.2)).map (·.1))))
theorem each_of {s : Shared} {vs : List Value} {ds : List PyData} {as : List Addr} (h : ReadsAll s.heap vs ds as) : EachIs (fun v d => ∃ as, Reads s.heap v d as) vs ds := by
  have h' : ReadsAll s.heap vs (ds.map id) as := by rw [List.map_id]; exact h
  exact PySem.W.readsAll_each id h'
theorem each_snd {α β γ : Type} {R : α → γ → Prop} {f : β → γ} : ∀ {vs : List α} {bs : List β}, EachIs R vs (bs.map f) → EachIs (fun v b => R v (f b)) vs bs
  | [], [], _ => .nil
  | [], _ :: _, h => by cases h
  | _ :: _, [], h => by cases h
  | _ :: _, _ :: _, .cons h t => .cons h (each_snd t)
theorem each_vals : ∀ {bs : List (V × PyData)} {us : List Value}, Vals (bs.map (·.1)) us → EachIs (fun u b => RelV b.1 u) us bs
  | [], _, h => by cases h; exact .nil
  | _ :: _, _, h => by cases h with | cons r t => exact .cons r (each_vals t)
theorem vals_each : ∀ {bs : List (V × PyData)} {us : List Value}, EachIs (fun u b => RelV b.1 u) us bs → Vals (bs.map (·.1)) us
  | [], _, h => by cases h; exact .nil
  | _ :: _, _, h => by cases h with | cons r t => exact .cons r (vals_each t)
theorem cr_srt {X : Cx} (hu : X.A.units + 64 < cLine) : CallR X (.builtin "sorted") (rSrt X.K) := by
  intro pins s σ H args us Q I r h
  obtain ⟨a, bs, rfl, hs, hd, hal, hk, hdep, q⟩ := h
  obtain ⟨its, rv, hl, hz⟩ := I.list hs
  rw [Vals.ref1 r]
  obtain ⟨as, hr⟩ := Dp.readsAll I _ _ its hd rv
  have hlen : (bs.map (·.1)).length = bs.length := List.length_map ..
  refine PySem.W.sorted_data (bs := bs) (enc := fun b => b.2) (R := fun u b => RelV b.1 u) hl.isList (each_vals rv) (each_snd (each_of hr)) hal hk (by rw [← hlen]; exact hz) (fun b hb => by have := hdep b hb; omega) fun out h1 h2 => ?_
  obtain ⟨ep, he'⟩ := PyProof.Rows.sortedAll_at s.heap its out.toArray
  have hv := vals_each h2
  have hl2 : ((bs.mergeSort (dataLe false fun b => b.2)).map (·.1)).length ≤ sizeLine := by rw [List.length_map, List.length_mergeSort, ← hlen]; exact hz
  exact ⟨.ref _, upd H (s.heap.objs.size + 1) (.lst ((bs.mergeSort (dataLe false fun b => b.2)).map (·.1))), I.laid (t' := s.toks) (fun _ _ => PyProof.Rows.sortedAll_old) (Nat.le_succ _) ⟨hl2, out, ep, hv, he'⟩, rfl, q _ (I.hok.fresh (Nat.le_succ _))⟩
section
variable {P : Program} {w : World} {K : PySem.W.Frag} {mg : Str → Option Value} {base : Heap} {N : List Str} {sc : Scope} {fn : Str → Bool} {k : Nat}
variable {M : Fm P w K mg base N sc fn k}
variable {S : Type} {O : S → Res} {Γ : Asrt} {s : S} {α β γ ρ : Type} {ra : RP α} {rb : RP β} {rc : RP γ} {A : ρ → VA}
/-- things of this kind are sorted by sorted -/
structure Srt [DecidableEq α] (D : Dat K ra) : Prop where
  al : ∀ x y, PySem.W.alike (D.d x) (D.d y) = true
  so : ∀ xs : List α, PySem.W.Sortable (xs.map D.d)
def srt [DecidableEq α] (D : Dat K ra) (xs : List α) : List α := xs.mergeSort (dataLe false D.d)
theorem all2_dp [DecidableEq α] (D : Dat K ra) {F H : Hp} (e : Same F H) : ∀ {xs : List α} {vs : List V}, All2 (fun x v => ra.r x v F) xs vs → ∃ bs : List (V × PyData), bs.map (·.1) = vs ∧ bs.map (·.2) = xs.map D.d ∧ DpAll K H vs (xs.map D.d) ∧ ∃ T : List (α × V), T.map (·.1) = xs ∧ bs = T.map (fun t => (t.2, D.d t.1)) ∧ ∀ t ∈ T, ra.r t.1 t.2 F
  | [], [], _ => ⟨[], rfl, rfl, .nil, [], rfl, rfl, fun _ h => (by cases h)⟩
  | x :: xs, v :: vs, ⟨h, t⟩ => by
    obtain ⟨bs, e1, e2, e3, T, t1, t2, t3⟩ := all2_dp D e t
    refine ⟨(v, D.d x) :: bs, by rw [List.map_cons, e1], by rw [List.map_cons, e2]; rfl, .cons (D.dp e h).1 e3, (x, v) :: T, by rw [List.map_cons, t1], by rw [List.map_cons, t2], fun t ht => ?_⟩
    rcases List.mem_cons.mp ht with rfl | ht
    · exact h
    · exact t3 t ht
theorem all2_of {F : Hp} : ∀ {T : List (α × V)}, (∀ t ∈ T, ra.r t.1 t.2 F) → All2 (fun x v => ra.r x v F) (T.map (·.1)) (T.map (·.2))
  | [], _ => trivial
  | t :: T, h => ⟨h t List.mem_cons_self, all2_of fun u hu => h u (List.mem_cons_of_mem _ hu)⟩
theorem xe_sorted [DecidableEq α] {e : Expr} {p pos : Pos} {wa : (List α → S → Prop) → Prop} (D : Dat K ra) (sD : Srt D) (hm : mg "sorted" = none) (ha : XE M O Γ s e (fz (pL K ra)) wa) (hn : D.n ≤ 60 := by exact Nat.le_of_ble_eq_true rfl) (hg : GlN sc "sorted" := by rfl) (hs : NoStar e := by intro _ _; rfl) :
    XE M O Γ s (.Call (.Name "sorted" p) [e] [] pos) (ol ra) (fun k => wa fun x s1 => k (srt D x) s1) := by
  refine xe_cb1 (A := ol ra) (Wo := fun x k => k (srt D x)) b_sorted (fun i => by have h := cr_srt (X := M.X i) (M.room i).units; rw [M.kf i] at h; exact h) ?_ hm hg ha (by decide) (by decide) hs
  intro S' O' HI Γ' s' σ F H x u C Q st rx hq hc
  obtain ⟨a, vs, rfl, hS, al⟩ := rx
  obtain ⟨bs, e1, e2, e3, T, t1, t2, t3⟩ := all2_dp D st.ok al
  refine ⟨a, bs, rfl, by rw [e1]; exact SqL.mono st.ok hS, by rw [e1, e2]; exact e3, fun d hd d' hd' => ?_, by rw [e2]; exact sD.so x, fun b hb => ?_, fun q hp => ?_⟩
  · rw [e2] at hd hd'
    obtain ⟨y, _, rfl⟩ := List.mem_map.mp hd
    obtain ⟨z, _, rfl⟩ := List.mem_map.mp hd'
    exact sD.al y z
  · have : b.2 ∈ bs.map (·.2) := List.mem_map.mpr ⟨b, hb, rfl⟩
    rw [e2] at this
    obtain ⟨y, _, ey⟩ := List.mem_map.mp this
    rw [← ey]; exact Nat.le_trans (D.dep y) hn
  · have m1 : (T.mergeSort (dataLe false fun t => D.d t.1)).map (·.1) = srt D x := by
      unfold srt
      rw [← t1]
      exact List.map_mergeSort (s := dataLe false D.d) fun _ _ _ _ => rfl
    have m2 : (bs.mergeSort (dataLe false fun b => b.2)).map (·.1) = (T.mergeSort (dataLe false fun t => D.d t.1)).map (·.2) := by
      rw [t2, ← List.map_mergeSort (r := dataLe false fun t : α × V => D.d t.1) (s := dataLe false fun b : V × PyData => b.2) (f := fun t : α × V => (t.2, D.d t.1)) (fun _ _ _ _ => rfl), List.map_map]
      rfl
    rw [m2]
    refine hq _ _ F _ hc (Same.refl _) (st.newV hp ⟨q, _, rfl, rfl, ?_⟩)
    rw [← m1]
    exact all2_of fun t ht => t3 t (List.mem_mergeSort.mp ht)
end
end Sm

set_option Elab.async false
set_option linter.all false
set_option maxRecDepth 100000
set_option maxHeartbeats 4000000
namespace Sm
open PySem PySem.Spec PyProof.Rows L2
section
variable {K : PySem.W.Frag} {α β : Type} {ra : RP α} {rb : RP β}
theorem sI : Srt (dI (K := K)) := ⟨fun x y => by show PySem.W.alike (.int x) (.int y) = true; simp only [PySem.W.alike], fun xs => .inr fun d hd => by
  obtain ⟨x, _, rfl⟩ := List.mem_map.mp hd
  exact ⟨fun e => PyData.noConfusion e, fun ys e => PyData.noConfusion e⟩⟩
theorem sT : Srt (dT (K := K)) := ⟨fun x y => by show PySem.W.alike (.str _) (.str _) = true; simp only [PySem.W.alike], fun xs => .inr fun d hd => by
  obtain ⟨x, _, rfl⟩ := List.mem_map.mp hd
  exact ⟨fun e => PyData.noConfusion e, fun ys e => PyData.noConfusion e⟩⟩
theorem sP [DecidableEq α] [DecidableEq β] {D : Dat K ra} {E : Dat K rb} (h : Srt D) (g : Srt E) : Srt (dP D E) := ⟨fun x y => by
  show PySem.W.alike (.tuple [D.d x.1, E.d x.2]) (.tuple [D.d y.1, E.d y.2]) = true
  simp only [PySem.W.alike, PySem.W.alikeAll, h.al, g.al, Bool.and_self], fun xs => .inl fun d hd => by
  obtain ⟨x, _, rfl⟩ := List.mem_map.mp hd
  exact ⟨_, _, rfl⟩⟩
theorem alike_all [DecidableEq α] {D : Dat K ra} (h : Srt D) : ∀ xs ys : List α, PySem.W.alikeAll (xs.map D.d) (ys.map D.d) = true
  | [], _ => by rw [List.map_nil, PySem.W.alikeAll]
  | _ :: _, [] => by rw [List.map_nil, List.map_cons, PySem.W.alikeAll]
  | x :: xs, y :: ys => by
    rw [List.map_cons, List.map_cons, PySem.W.alikeAll, h.al, alike_all h xs ys]; rfl
theorem sL [DecidableEq α] {D : Dat K ra} (h : Srt D) : Srt (dL D) := ⟨fun x y => by
  show PySem.W.alike (.list (x.map D.d)) (.list (y.map D.d)) = true
  rw [PySem.W.alike]; exact alike_all h x y, fun xs => .inr fun d hd => by
  obtain ⟨x, _, rfl⟩ := List.mem_map.mp hd
  exact ⟨fun e => PyData.noConfusion e, fun ys e => PyData.noConfusion e⟩⟩
end
end Sm
namespace Sm
open PySem PySem.Spec PyProof.Rows L2
/-! ### <, >, <=, >= of any data that compare -/
def rCmpD (K : PySem.W.Frag) (f : PyData → PyData → Bool) : R2 := fun x y H Q => ∃ d e, Dp K H x d ∧ Dp K H y e ∧ PySem.W.alike d e = true ∧ d ≠ .none ∧ d.depth ≤ 60 ∧ Q (.bl (f d e)) H
section
variable {X : Cx}
theorem op_ltD (hu : X.A.units + 64 < cLine) : OpR X (compareOp .Lt) (rCmpD X.K PySem.W.dataLt) := by
  intro pins s σ H x y v u Q I rx ry ⟨d, e, hd, he, al, nn, dep, q⟩
  obtain ⟨as, ra⟩ := Dp.reads I d x v hd rx
  obtain ⟨bs, rb⟩ := Dp.reads I e y u he ry
  exact PySem.W.lt_data ra rb al nn (by omega) ⟨.bl _, H, I, rfl, q⟩
theorem op_gtD (hu : X.A.units + 64 < cLine) : OpR X (compareOp .Gt) (rCmpD X.K fun d e => PySem.W.dataLt e d) := by
  intro pins s σ H x y v u Q I rx ry ⟨d, e, hd, he, al, nn, dep, q⟩
  obtain ⟨as, ra⟩ := Dp.reads I d x v hd rx
  obtain ⟨bs, rb⟩ := Dp.reads I e y u he ry
  exact PySem.W.gt_data ra rb al nn (by omega) ⟨.bl _, H, I, rfl, q⟩
theorem op_leD (hu : X.A.units + 64 < cLine) : OpR X (compareOp .LtE) (rCmpD X.K fun d e => !PySem.W.dataLt e d) := by
  intro pins s σ H x y v u Q I rx ry ⟨d, e, hd, he, al, nn, dep, q⟩
  obtain ⟨as, ra⟩ := Dp.reads I d x v hd rx
  obtain ⟨bs, rb⟩ := Dp.reads I e y u he ry
  exact PySem.W.le_data ra rb al nn (by omega) ⟨.bl _, H, I, rfl, q⟩
theorem op_geD (hu : X.A.units + 64 < cLine) : OpR X (compareOp .GtE) (rCmpD X.K fun d e => !PySem.W.dataLt d e) := by
  intro pins s σ H x y v u Q I rx ry ⟨d, e, hd, he, al, nn, dep, q⟩
  obtain ⟨as, ra⟩ := Dp.reads I d x v hd rx
  obtain ⟨bs, rb⟩ := Dp.reads I e y u he ry
  exact PySem.W.ge_data ra rb al nn (by omega) ⟨.bl _, H, I, rfl, q⟩
end
section
variable {P : Program} {w : World} {K : PySem.W.Frag} {mg : Str → Option Value} {base : Heap} {N : List Str} {sc : Scope} {fn : Str → Bool} {k : Nat}
variable {M : Fm P w K mg base N sc fn k}
variable {S : Type} {O : S → Res} {Γ : Asrt} {s : S} {α β γ ρ : Type} {ra : RP α} {rb : RP β} {rc : RP γ} {A : ρ → VA}
/-- comes ahead, for things of this kind -/
def ltD [DecidableEq α] (D : Dat K ra) (x y : α) : Bool := PySem.W.dataLt (D.d x) (D.d y)
structure Cmp [DecidableEq α] (D : Dat K ra) : Prop where
  s : Srt D
  nn : ∀ x, D.d x ≠ .none
  dep : D.n ≤ 60
theorem o_cmpD [DecidableEq α] {D : Dat K ra} (c : Cmp D) {f : PyData → PyData → Bool} : Op2 (rCmpD K f) ra ra (fz pB) (fun x y k => k (f (D.d x) (D.d y))) :=
  fun O HI Γ s σ F H x y u v C Q st rx ry hq hc => ⟨D.d x, D.d y, (D.dp st.ok rx).1, (D.dp st.ok ry).1, c.s.al x y, c.nn x, Nat.le_trans (D.dep x) c.dep, hq _ _ F H hc (Same.refl _) (st.val rfl)⟩
variable {a b : Expr} {wa : (α → S → Prop) → Prop} {wb : S → (α → S → Prop) → Prop}
theorem xc_ltD [DecidableEq α] {D : Dat K ra} (c : Cmp D) (ha : XE M O Γ s a (fz ra) wa) (hb : ∀ s', XE M O Γ s' b (fz ra) (wb s')) : XC M O Γ s .Lt a b (fun k => wa fun x s1 => wb s1 fun y s2 => k (ltD D x y) s2) :=
  xc_op (fun i => by have h := op_ltD (X := M.X i) (M.room i).units; rw [M.kf i] at h; exact h) (o_cmpD c) ha hb
theorem xc_gtD [DecidableEq α] {D : Dat K ra} (c : Cmp D) (ha : XE M O Γ s a (fz ra) wa) (hb : ∀ s', XE M O Γ s' b (fz ra) (wb s')) : XC M O Γ s .Gt a b (fun k => wa fun x s1 => wb s1 fun y s2 => k (ltD D y x) s2) :=
  xc_op (fun i => by have h := op_gtD (X := M.X i) (M.room i).units; rw [M.kf i] at h; exact h) (o_cmpD (f := fun d e => PySem.W.dataLt e d) c) ha hb
theorem xc_leD [DecidableEq α] {D : Dat K ra} (c : Cmp D) (ha : XE M O Γ s a (fz ra) wa) (hb : ∀ s', XE M O Γ s' b (fz ra) (wb s')) : XC M O Γ s .LtE a b (fun k => wa fun x s1 => wb s1 fun y s2 => k (!ltD D y x) s2) :=
  xc_op (fun i => by have h := op_leD (X := M.X i) (M.room i).units; rw [M.kf i] at h; exact h) (o_cmpD (f := fun d e => !PySem.W.dataLt e d) c) ha hb
theorem xc_geD [DecidableEq α] {D : Dat K ra} (c : Cmp D) (ha : XE M O Γ s a (fz ra) wa) (hb : ∀ s', XE M O Γ s' b (fz ra) (wb s')) : XC M O Γ s .GtE a b (fun k => wa fun x s1 => wb s1 fun y s2 => k (!ltD D x y) s2) :=
  xc_op (fun i => by have h := op_geD (X := M.X i) (M.room i).units; rw [M.kf i] at h; exact h) (o_cmpD (f := fun d e => !PySem.W.dataLt d e) c) ha hb
theorem cT : Cmp (dT (K := K)) := ⟨sT, fun x e => PyData.noConfusion e, by exact Nat.le_of_ble_eq_true rfl⟩
theorem cLI : Cmp (dL (dI (K := K))) := ⟨sL sI, fun x e => PyData.noConfusion e, by exact Nat.le_of_ble_eq_true rfl⟩
/-! ### texts: find -/
def findT (x y : Text) : Int := Txt.find ⟨x.toArray⟩ ⟨y.toArray⟩
theorem xe_find {a b : Expr} {ap cp : Pos} {wa : (Text → S → Prop) → Prop} {wb : S → (Text → S → Prop) → Prop} (ha : XE M O Γ s a (fz pT) wa) (hb : ∀ s', XE M O Γ s' b (fz pT) (wb s')) (hns : NoStar b := by intro _ _; rfl)
    (hbase : ∀ env, attributeBase a "find" env (eval a env) = eval a env := by intro _; rfl)
    (hfew : ∀ env, ((backTo cp (starEach [b] env)).all (fun x => !x.1) && (backToKw cp (keywordEach [] env)).all (fun x => x.1.isSome) && decide ([b].length + ([] : List Keyword).length + (if ([] : List Keyword).isEmpty then 0 else 1) < 30)) = true := by intro _; rfl)
    (hline : (ap.endLine == cp.line) = true := by rfl) :
    XE M O Γ s (.Call (.Attribute a "find" ap) [b] [] cp) (fz pI) (fun k => wa fun x s1 => wb s1 fun y s2 => k (findT x y) s2) := by
  intro HI C Q σ F H st hq hc
  refine ⟨tBM K "str" (fun x xs H Q => ∃ a b, x = .str a ∧ xs = [.str b] ∧ Q (.int (Txt.find a b)) H) (rdE M a) (tCons (rdE M b) tNil), fun i => (by
    have h := pe_bm (X := M.X i) (cpos := cp) PySem.F.plainAttrs_str PySem.F.slot_str_find PySem.F.type_str_find mt_find (rdE_ok (M := M) i) (pa_cons (rdE_ok (M := M) i) pa_nil (hns _ _)) (hbase _) (hfew _) hline (hns _ _) rfl
    rw [M.kf i] at h; exact h), ?_⟩
  refine ha HI _ _ σ F H st (fun x s1 v F1 H1 c1 e1 sv1 => ?_) hc
  obtain ⟨⟨ev, okx⟩, st1⟩ := sv1.fz
  subst ev
  refine ⟨rfl, ?_⟩
  refine hb s1 HI _ _ σ F1 H1 st1 (fun y s2 u F2 H2 c2 e2 sv2 => ?_) c1
  obtain ⟨⟨eu, oky⟩, st2⟩ := sv2.fz
  subst eu
  exact ⟨_, _, rfl, rfl, hq _ s2 _ F2 H2 c2 (e1.trans e2) (st2.val rfl)⟩
end
end Sm

set_option Elab.async false
set_option linter.all false
set_option maxRecDepth 100000
set_option maxHeartbeats 4000000
namespace Sm
open PySem PySem.Spec PyProof.Rows L2
/-! ### xs.extend(ys), ys any list or tuple -/
theorem ext_any (T2 : String) (hT : T2 = "list" ∨ T2 = "tuple") (l b : Addr) (xs ys : Array Value) (n m : Nat) (d2 : Option Addr) (s2 : Array (Option Value)) (h0 : ¬(!xs.isEmpty && Builtin.List.listTooLong (xs.size + ys.size)) = true) (h1 : xs.size ≤ sizeLine)
    (h2 : xs.size + ys.size ≤ sizeLine + 1) :
    Meets (Builtin.«list.extend» ⟨[.ref l, .ref b], []⟩) (fun _ R s =>
      s.heap.get? l = some { cls := .type "list", dict := none, data := .seq xs n, slots := #[] } ∧
      s.heap.get? b = some { cls := .type T2, dict := d2, data := .seq ys m, slots := s2 } ∧
      R (.ok (.ret Value.none)) { s with heap := s.heap.update l (Obj.mapSeq fun x => x ++ ys), toks := s.toks }) :=
  .of_wp fun prog w A R s h => by
    obtain ⟨hp, g, d, tk, os⟩ := s
    obtain ⟨hl, hb, h⟩ := h
    have g1 := AutoSeq1.idx_int
    have g2 := AutoSeq1.sub_tuple_tuple
    have g3 := AutoSeq1.sub_list_list
    have g4 := AutoSeq1.sub_tuple_list
    have g5 := AutoSeq1.sub_list_tuple
    have hz' : (xs ++ ys).size ≤ sizeLine + 1 := by rw [Array.size_append]; exact h2
    rcases hT with rfl | rfl
    · wp_walk using (wpAny_updateSeq hl rfl (hz := h1) (_hz' := hz')), wpAny_loadPart' hl, wpAny_loadPart' hb
      exact ⟨_, rfl, h⟩
    · wp_walk using (wpAny_updateSeq hl rfl (hz := h1) (_hz' := hz')), wpAny_loadPart' hl, wpAny_loadPart' hb
      exact ⟨_, rfl, h⟩
def rExtSq (K : PySem.W.Frag) : V → List V → Hp → VK → Prop := fun x vs H Q => ∃ l b xs zs, x = .ref l ∧ vs = [.ref b] ∧ H l = some (.lst xs) ∧ (SqL K H b zs ∨ SqT K H b zs) ∧ xs.length + zs.length ≤ sizeLine ∧ Q .non (upd H l (.lst (xs ++ zs)))
theorem mt_extSq {X : Cx} : MtM X "list.extend" (rExtSq X.K) := by
  intro pins s σ H x vs v us Q I rx rv h
  obtain ⟨l, b, xs, zs, rfl, rfl, hH, hB, hz, q⟩ := h
  cases rx
  obtain ⟨u, rfl, ru⟩ := rv.one
  cases ru
  obtain ⟨z, its, n, r, hl, e⟩ := I.lstM hH
  obtain ⟨its2, T2, hT, o2, r2, ho2, hc2, m, hd2⟩ : ∃ (its2 : List Value) (T2 : String), (T2 = "list" ∨ T2 = "tuple") ∧ ∃ o2 : Obj, Vals zs its2 ∧ s.heap.get? b = some o2 ∧ o2.cls = .type T2 ∧ ∃ m, o2.data = .seq its2.toArray m := by
    rcases hB with hB | hB
    · obtain ⟨its2, r2, pl, _⟩ := I.list hB
      obtain ⟨o2, ho2, hc2, m, hd2⟩ := pl.isList
      exact ⟨its2, "list", .inl rfl, o2, r2, ho2, hc2, m, hd2⟩
    · obtain ⟨its2, r2, pl, _⟩ := I.tuple hB
      obtain ⟨o2, ho2, hc2, m, hd2⟩ := pl
      exact ⟨its2, "tuple", .inr rfl, o2, r2, ho2, hc2, m, hd2⟩
  obtain ⟨cls2, dd2, data2, sl2⟩ := o2
  simp only at hc2 hd2
  subst hc2 hd2
  have hl2 := r2.length
  have hsz : its.toArray.size + its2.toArray.size ≤ sizeLine := by rw [List.size_toArray, List.size_toArray]; omega
  have hlong : ¬ (!its.toArray.isEmpty && Builtin.List.listTooLong (its.toArray.size + its2.toArray.size)) = true := by
    rw [notLongL hsz, Bool.and_false]
    exact Bool.false_ne_true
  refine call_meets F.slot_list_extend ⟨_, e, rfl⟩ F.entry_list_extend (F.args_list_extend_2 _ _) (ext_any T2 hT l b _ _ n m dd2 sl2 hlong (by omega) (by omega)) ⟨e, ho2, ?_⟩
  refine ⟨.non, _, I.lset (its' := its ++ its2) hH e (by simp) (r.append r2) ?_, rfl, q⟩
  rw [List.length_append]
  omega
end Sm
namespace Sm
open PySem PySem.Spec PyProof.Rows L2
section
variable {P : Program} {w : World} {K : PySem.W.Frag} {mg : Str → Option Value} {base : Heap} {N : List Str} {sc : Scope} {fn : Str → Bool} {k : Nat}
variable {M : Fm P w K mg base N sc fn k}
variable {S : Type} {O : S → Res} {Γ : Asrt} {s : S} {α β γ ρ : Type} {ra : RP α} {rb : RP β} {rc : RP γ} {A : ρ → VA}
section
variable {HI F0 : Hp} {D : Ends} {e : Expr} {x : Str} {p1 ap cp pos : Pos} {rest : List Stmt} {xs : List α} {W : (List α → S → Prop) → Prop} {Pk : List α → S → Prop}
theorem ext_run (rq : RP (List α)) (hq : ∀ {y u F}, rq.r y u F → ∃ b ws, u = .ref b ∧ (SqL K F b ws ∨ SqT K F b ws) ∧ All2 (fun x v => ra.r x v F) y ws) (i : Nat) (hΓ : Γ[i]? = some (some (ol ra xs))) (he : XE M O Γ s e (fz rq) W) (hk : ∀ y s', XSs M O HI F0 (Γ.set i (some (ol ra (xs ++ y)))) s' rest D (Pk y s'))
    (hN : N[i]? = some x) (hv : Vis sc x) (hd : (x == ("__debug__" : Str)) = false) (hcd : (x == ("__classdict__" : Str)) = false) (hns : NoStar e)
    (hfew : ∀ env, ((backTo cp (starEach [e] env)).all (fun x => !x.1) && (backToKw cp (keywordEach [] env)).all (fun x => x.1.isSome) && decide ([e].length + ([] : List Keyword).length + (if ([] : List Keyword).isEmpty then 0 else 1) < 30)) = true)
    (hline : (ap.endLine == cp.line) = true) (hs : ∀ j, swapsWith (.Call (.Attribute (.Name x p1) "extend" ap) [e] [] cp) none pos.line (M.X j).env = pure false) :
    XSs M O HI F0 Γ s (.Expr (.Call (.Attribute (.Name x p1) "extend" ap) [e] [] cp) pos :: rest) D (W fun y s' => xs.length + y.length ≤ sizeLine ∧ Pk y s') := by
  intro σ F H e0 st hp
  refine ⟨_, fun j => pss_cons (ps_expr (by
    have h := pe_bm (X := M.X j) (cpos := cp) PySem.F.plainAttrs_list PySem.F.slot_list_extend PySem.F.type_list_extend mt_extSq (pe_nameO (pos := p1) hN hv hd hcd j) (pa_cons (rdE_ok (M := M) j) pa_nil (hns _ _)) rfl (hfew _) hline (hns _ _) rfl
    rw [M.kf j] at h; exact h) (hs j)) (rdSs_ok j), ?_⟩
  obtain ⟨a, vs, ea, eh, al, _⟩ := st.own hΓ
  refine ⟨.ref a, ea, .inl ⟨rfl, vs, SqL.of eh⟩, ?_⟩
  refine he HI _ _ σ F H st (fun y s' u F' H' c e1 sv => ?_) hp
  obtain ⟨ry, st'⟩ := sv.fz
  obtain ⟨b, ws, eu, hsq, alb⟩ := hq ry
  subst eu
  obtain ⟨a', vs', ea', eh', al', up⟩ := st'.own hΓ
  rw [ea] at ea'; cases ea'
  refine ⟨a, b, vs', ws, rfl, rfl, eh', hsq.imp (SqL.mono st'.ok) (SqT.mono st'.ok), by rw [← al'.length, ← alb.length]; exact c.1, ?_⟩
  exact hk y s' σ F' _ (e0.trans e1) (up _ _ (al'.append alb)) c.2
theorem xs_extendF (i : Nat) (hΓ : Γ[i]? = some (some (ol ra xs))) (he : XE M O Γ s e (fz (pL K ra)) W) (hk : ∀ y s', XSs M O HI F0 (Γ.set i (some (ol ra (xs ++ y)))) s' rest D (Pk y s'))
    (hN : N[i]? = some x := by rfl) (hv : Vis sc x := by first | exact Or.inl rfl | exact Or.inr (Or.inl rfl) | exact Or.inr (Or.inr rfl)) (hd : (x == ("__debug__" : Str)) = false := by decide) (hcd : (x == ("__classdict__" : Str)) = false := by decide)
    (hns : NoStar e := by intro _ _; rfl) (hfew : ∀ env, ((backTo cp (starEach [e] env)).all (fun x => !x.1) && (backToKw cp (keywordEach [] env)).all (fun x => x.1.isSome) && decide ([e].length + ([] : List Keyword).length + (if ([] : List Keyword).isEmpty then 0 else 1) < 30)) = true := by intro _; rfl)
    (hline : (ap.endLine == cp.line) = true := by rfl) (hs : ∀ j, swapsWith (.Call (.Attribute (.Name x p1) "extend" ap) [e] [] cp) none pos.line (M.X j).env = pure false := by intro _; rfl) :
    XSs M O HI F0 Γ s (.Expr (.Call (.Attribute (.Name x p1) "extend" ap) [e] [] cp) pos :: rest) D (W fun y s' => xs.length + y.length ≤ sizeLine ∧ Pk y s') :=
  ext_run (pL K ra) (fun ⟨b, ws, h1, h2, h3⟩ => ⟨b, ws, h1, .inl h2, h3⟩) i hΓ he hk hN hv hd hcd hns hfew hline hs
theorem xs_extendU (i : Nat) (hΓ : Γ[i]? = some (some (ol ra xs))) (he : XE M O Γ s e (fz (pU K ra)) W) (hk : ∀ y s', XSs M O HI F0 (Γ.set i (some (ol ra (xs ++ y)))) s' rest D (Pk y s'))
    (hN : N[i]? = some x := by rfl) (hv : Vis sc x := by first | exact Or.inl rfl | exact Or.inr (Or.inl rfl) | exact Or.inr (Or.inr rfl)) (hd : (x == ("__debug__" : Str)) = false := by decide) (hcd : (x == ("__classdict__" : Str)) = false := by decide)
    (hns : NoStar e := by intro _ _; rfl) (hfew : ∀ env, ((backTo cp (starEach [e] env)).all (fun x => !x.1) && (backToKw cp (keywordEach [] env)).all (fun x => x.1.isSome) && decide ([e].length + ([] : List Keyword).length + (if ([] : List Keyword).isEmpty then 0 else 1) < 30)) = true := by intro _; rfl)
    (hline : (ap.endLine == cp.line) = true := by rfl) (hs : ∀ j, swapsWith (.Call (.Attribute (.Name x p1) "extend" ap) [e] [] cp) none pos.line (M.X j).env = pure false := by intro _; rfl) :
    XSs M O HI F0 Γ s (.Expr (.Call (.Attribute (.Name x p1) "extend" ap) [e] [] cp) pos :: rest) D (W fun y s' => xs.length + y.length ≤ sizeLine ∧ Pk y s') :=
  ext_run (pU K ra) (fun ⟨b, ws, h1, h2, h3⟩ => ⟨b, ws, h1, .inr h2, h3⟩) i hΓ he hk hN hv hd hcd hns hfew hline hs
end
end
end Sm

set_option Elab.async false
set_option linter.all false
set_option maxRecDepth 100000
set_option maxHeartbeats 4000000
namespace Sm
open PySem PySem.Spec PyProof.Rows L2
def eI : Int → PyData := .int
def eT : Text → PyData := fun x => .str ⟨x.toArray⟩
def eL {α : Type} (e : α → PyData) : List α → PyData := fun xs => .list (xs.map e)
def eU {α : Type} (e : α → PyData) : List α → PyData := fun xs => .tuple (xs.map e)
def eP {α β : Type} (e : α → PyData) (f : β → PyData) : α × β → PyData := fun x => .tuple [e x.1, f x.2]
abbrev srtE {α : Type} (e : α → PyData) (xs : List α) : List α := xs.mergeSort (PySem.W.dataLe false e)
abbrev ltE {α : Type} (e : α → PyData) (x y : α) : Bool := PySem.W.dataLt (e x) (e y)
section
variable {P : Program} {w : World} {K : PySem.W.Frag} {mg : Str → Option Value} {base : Heap} {N : List Str} {sc : Scope} {fn : Str → Bool} {k : Nat}
variable {M : Fm P w K mg base N sc fn k}
variable {S : Type} {O : S → Res} {Γ : Asrt} {s : S} {α β γ ρ : Type} {ra : RP α} {rb : RP β} {rc : RP γ} {A : ρ → VA}
theorem cut_whole {xs : List α} {lo hi : Option Int} (h : HT.sIx xs.length 0 lo = 0 ∧ HT.sIx xs.length xs.length hi = xs.length) : cutG xs lo hi = xs := by
  unfold cutG
  rw [h.1, h.2, List.drop_zero, Nat.sub_zero, List.take_length]
/-- t[lo:hi] of a tuple -/
theorem xe_cutU {e : Expr} {lo hi : Option Expr} {p2 pos : Pos} {wa : (List α → S → Prop) → Prop} {wl wh : S → (Option Int → S → Prop) → Prop} (ha : XE M O Γ s e (fz (pU K ra)) wa) (hl : ∀ s', XO M O Γ s' lo (wl s')) (hh : ∀ s', XO M O Γ s' hi (wh s')) :
    XE M O Γ s (.Subscript e (.Slice lo hi none p2) pos) (fz (pU K ra)) (fun k => wa fun x s1 => wl s1 fun l s2 => wh s2 fun h s3 => k (cutG x l h) s3) := by
  intro HI C Q σ F H st hq hc
  refine ⟨tSl (rSlA K) (rdE M e) (rdO M lo) (rdO M hi), fun i => (by have h := pe_slice (X := M.X i) (pos := pos) (p2 := p2) sl_tupA (rdE_ok (M := M) i (e := e)) (rdO_ok (M := M) i (e := lo)) (rdO_ok (M := M) i (e := hi)); rw [M.kf i] at h; exact h), ha HI _ _ σ F H st (fun x s1 u F1 H1 c1 e1 sv1 => ?_) hc⟩
  obtain ⟨⟨a, vs, h1, h2, h3⟩, st1⟩ := sv1.fz
  refine hl s1 HI _ _ σ F1 H1 st1 (fun l s2 F2 H2 c2 e2 st2 => hh s2 HI _ _ σ F2 H2 st2 (fun h s3 F3 H3 c3 e3 st3 => ?_) c2) c1
  have a3 := h3.imp fun _ _ q => ra.mono (e2.trans e3) q
  refine ⟨a, vs, h1, SqT.mono ((e2.trans e3).trans st3.ok) h2, fun hw => ?_, fun _ p hp => ?_⟩
  · refine hq _ s3 _ F3 _ c3 (e1.trans (e2.trans e3)) (st3.val ⟨a, vs, rfl, SqT.mono (e2.trans e3) h2, ?_⟩)
    rw [cut_whole (by rw [a3.length]; exact hw)]; exact a3
  · obtain ⟨e4, st4⟩ := st3.newF (o := .tup (cutV vs l h)) hp
    exact hq _ s3 _ _ _ c3 (e1.trans (e2.trans (e3.trans e4))) (st4.val ⟨p, _, rfl, .inl (.inl upd_same), (a3.cut l h).imp fun _ _ q => ra.mono e4 q⟩)
end
end Sm
namespace Sm
open PySem PySem.Spec PyProof.Rows L2
/-! ### text[::-1] -/
def tRevS (te tk : TE) : TE := fun σ H Q => te σ H fun x H1 => tPart tk σ H1 fun o H2 => o = some (-1) ∧ ∃ a : Text, x = .str ⟨a.toArray⟩ ∧ a.length ≤ sizeLine ∧ Q (.str ⟨a.reverse.toArray⟩) H2
theorem rev_text (a : Text) (t : Tok) : Txt.sliceBy ⟨a.toArray⟩ none none (-1, t) = ⟨a.reverse.toArray⟩ := by
  have h := step_rev_list ⟨a.toArray⟩ t
  have hl : (⟨a.toArray⟩ : Str).length = a.length := by simp [Str.length]
  have e : (Txt.sliceBy ⟨a.toArray⟩ none none (-1, t)).cps.toList = a.reverse := by
    rw [h, hl]
    refine List.ext_getElem (by simp) fun i h1 h2 => ?_
    rw [List.getElem_map, List.getElem_range, List.getElem_reverse]
    have hi : a.length - 1 - i < a.length := by simp at h1; omega
    show a.toArray.getD (a.length - 1 - i) 0 = _
    simp [Array.getD, hi]
  have e2 : (Txt.sliceBy ⟨a.toArray⟩ none none (-1, t)).cps = a.reverse.toArray := by rw [← e]
  calc Txt.sliceBy ⟨a.toArray⟩ none none (-1, t) = ⟨(Txt.sliceBy ⟨a.toArray⟩ none none (-1, t)).cps⟩ := rfl
    _ = _ := by rw [e2]
theorem pe_revS {X : Cx} {e kx : Expr} {te tk : TE} {p2 pos : Pos} (he : PE X e te) (hk : PE X kx tk) (hsub : ∀ (a : Value) (b : Addr), subscripted (.Slice none none (some kx) p2) false a (.ref b) = operate [a, .ref b] (getItem a (.ref b)) := by intro _ _; rfl) : PE X (.Subscript e (.Slice none none (some kx) p2) pos) (tRevS te tk) := by
  refine ⟨fun pins s σ H Q I h => ?_⟩
  refine Subscript_ (thn (he.run pins s σ H _ I h) fun v s1 ⟨x, H1, I1, r1, q1⟩ => ?_)
  refine wpAny_Slice ?_
  rw [evalPart_none]
  refine wpAny_pure (wpAny_pure ?_)
  refine thn ((po_some hk).run pins s1 σ H1 _ I1 q1) fun vk s3 ⟨o, H3, I3, pk, eo, a, ex, hz, q⟩ => ?_
  subst eo ex
  obtain ⟨tv, rfl⟩ := r1
  obtain ⟨t, rfl⟩ : ∃ t, vk = .int (-1) t := by cases pk; exact ⟨_, rfl⟩
  have I4 : Inv X pins σ H3 { s3 with heap := s3.heap.push { cls := .type "slice", data := .fields #[.none, .none, .int (-1) t] } } := I3.kept (t' := s3.toks) fun b ob q => Heap.get?_push_of_some _ q
  refine tail_any (ops := [.str ⟨a.toArray⟩ tv, .ref s3.heap.objs.size]) (typeIs_str _ _ _) PySem.F.slot_str_getitem.lookup ?_ (hsub _ _)
  refine PySem.wpAny_getItem_str_slice (l := none) (u := none) (st := some (-1, t)) ⟨_, Heap.get?_push_size _ rfl, rfl, rfl⟩ rfl ?_
  have hr := rev_text a t
  unfold Txt.sliceBy at hr
  rw [if_neg (by simp)] at hr
  unfold sliceMade
  rw [if_neg (by simp), hr]
  refine ⟨?_, .str _, H3, ?_, ⟨_, rfl⟩, q⟩
  · show (a.reverse.toArray).size ≤ _
    rw [List.size_toArray, List.length_reverse]; exact hz
  · exact I4.tok _
section
variable {P : Program} {w : World} {K : PySem.W.Frag} {mg : Str → Option Value} {base : Heap} {N : List Str} {sc : Scope} {fn : Str → Bool} {k : Nat}
variable {M : Fm P w K mg base N sc fn k}
variable {S : Type} {O : S → Res} {Γ : Asrt} {s : S}
theorem xe_revT {e : Expr} {j1 : Nat} {p0 p1 p2 pos : Pos} {wa : (Text → S → Prop) → Prop} (he : XE M O Γ s e (fz pT) wa) :
    XE M O Γ s (.Subscript e (.Slice none none (some (.UnaryOp .USub (.Constant (.int 1) j1 p0) p1)) p2) pos) (fz pT) (fun k => wa fun x s1 => x.length ≤ sizeLine ∧ k x.reverse s1) := by
  intro HI C Q σ F H st hq hc
  refine ⟨tRevS (rdE M e) (rdE M (.UnaryOp .USub (.Constant (.int 1) j1 p0) p1)), fun i => pe_revS (rdE_ok (M := M) i (e := e)) (rdE_ok (M := M) i (e := .UnaryOp .USub (.Constant (.int 1) j1 p0) p1)), ?_⟩
  refine he HI _ _ σ F H st (fun x s1 v F1 H1 c1 e1 sv1 => ?_) hc
  obtain ⟨⟨ev, ok⟩, st1⟩ := sv1.fz
  refine xe_neg (M := M) (O := O) (Γ := Γ) (s := s1) (pos := p1) (xe_int (j := j1) (pos := p0)) HI (fun z s2 => z = -1 ∧ s2 = s1) _ σ F1 H1 st1 (fun z s2 u F2 H2 c2 e2 sv2 => ?_) ⟨rfl, rfl⟩
  obtain ⟨ez, es⟩ := c2
  subst ez es
  obtain ⟨rz, st2⟩ := sv2.fz
  exact ⟨-1, rz, rfl, x, ev, c1.1, hq _ s2 _ F2 H2 c1.2 (e1.trans e2) (st2.val ⟨rfl, fun c hc => ok c (List.mem_reverse.mp hc)⟩)⟩
end
end Sm

set_option Elab.async false
set_option linter.all false
set_option maxRecDepth 100000
set_option maxHeartbeats 4000000
namespace Sm
open PySem PySem.Spec PyProof.Rows L2
/-! ### is True, is False -/
theorem op_isB {X : Cx} : OpR X (compareOp .Is) (fun x y H Q => ∃ a b : Bool, x = .bl a ∧ y = .bl b ∧ Q (.bl (a == b)) H) := by
  intro pins s σ H x y v u Q I rx ry ⟨a, b, ex, ey, q⟩
  subst ex ey
  cases rx
  cases ry
  show wpAny _ _ (do return Value.bool (← isSame (.bool a) (.bool b))) _ _ _
  unfold isSame
  cases a <;> cases b <;> exact wpAny_bind (wpAny_pure (wpAny_pure ⟨.bl _, H, I, rfl, q⟩))
section
variable {P : Program} {w : World} {K : PySem.W.Frag} {mg : Str → Option Value} {base : Heap} {N : List Str} {sc : Scope} {fn : Str → Bool} {k : Nat}
variable {M : Fm P w K mg base N sc fn k}
variable {S : Type} {O : S → Res} {Γ : Asrt} {s : S}
theorem xc_isB {a b : Expr} {wa : (Bool → S → Prop) → Prop} {wb : S → (Bool → S → Prop) → Prop} (ha : XE M O Γ s a (fz pB) wa) (hb : ∀ s', XE M O Γ s' b (fz pB) (wb s')) : XC M O Γ s .Is a b (fun k => wa fun x s1 => wb s1 fun y s2 => k (x == y) s2) :=
  xc_op (Wo := fun x y k => k (x == y)) (fun i => op_isB) (fun O HI Γ s σ F H x y u v C Q st rx ry hq hc => ⟨x, y, rx, ry, hq _ _ F H hc (Same.refl _) (st.val rfl)⟩) ha hb
end
end Sm

set_option Elab.async false
set_option linter.all false
set_option maxRecDepth 100000
set_option maxHeartbeats 4000000
namespace Fc
open Sm PySem
theorem rg_length (lo : Int) (n : Nat) : (rg lo n).length = n := by simp [rg]
theorem rg_mem {lo : Int} {n : Nat} {x : Int} : x ∈ rg lo n ↔ lo ≤ x ∧ x < lo + n := by
  unfold rg
  rw [List.mem_map]
  constructor
  · rintro ⟨i, h, rfl⟩
    have := List.mem_range.mp h
    omega
  · intro h
    exact ⟨(x - lo).toNat, List.mem_range.mpr (by omega), by omega⟩
theorem rg_add (lo : Int) (a b : Nat) : rg lo (a + b) = rg lo a ++ rg (lo + a) b := by
  unfold rg
  rw [List.range_add, List.map_append, List.map_map]
  congr 1
  refine List.map_congr_left fun i _ => ?_
  show lo + ((a + i : Nat) : Int) = lo + a + i
  omega
theorem rg_map_add (lo d : Int) (n : Nat) : rg (lo + d) n = (rg lo n).map (· + d) := by
  unfold rg
  rw [List.map_map]
  refine List.map_congr_left fun i _ => ?_
  show lo + d + (i : Int) = lo + i + d
  omega
theorem rg_succ (lo : Int) (n : Nat) : rg lo (n + 1) = lo :: rg (lo + 1) n := by
  rw [Nat.add_comm, rg_add]
  show (lo + 0) :: _ = _
  rw [Int.add_zero]
  rfl
theorem joinT_nil : ∀ ys : List Text, joinT [] ys = ys.flatten
  | [] => rfl
  | [y] => by show y = _; simp
  | y :: z :: r => by
    have h := joinT_nil (z :: r)
    show y ++ ([] ++ joinT [] (z :: r)) = _
    rw [h]; rfl
/-- the signs of a face -/
def isF (f : Text) : Prop := ∀ c ∈ f, c = 48 ∨ c = 49 ∨ c = 42
/-- the corners of a face, in order -/
def crn : Text → List Text
  | [] => [[]]
  | s :: f => (if s = 48 ∨ s = 42 then (crn f).map (48 :: ·) else []) ++ (if s = 49 ∨ s = 42 then (crn f).map (49 :: ·) else [])
/-- all corners of so many bits, in order -/
def allC : Nat → List Text
  | 0 => [[]]
  | n + 1 => (allC n).map (48 :: ·) ++ (allC n).map (49 :: ·)
/-- whether a corner has the face's signs -/
def mt : Text → Text → Bool
  | s :: f, b :: c => (s == 42 || s == b) && mt f c
  | _, _ => true
theorem crn_filter : ∀ f : Text, crn f = (allC f.length).filter (mt f)
  | [] => rfl
  | s :: f => by
    show _ = List.filter _ ((allC f.length).map (48 :: ·) ++ (allC f.length).map (49 :: ·))
    rw [List.filter_append, List.filter_map, List.filter_map]
    unfold crn
    rw [crn_filter f]
    congr 1
    · by_cases h : s = 48 ∨ s = 42
      · rw [if_pos h]; congr 1
        refine List.filter_congr fun c _ => ?_
        show _ = ((s == 42 || s == 48) && mt f c)
        rcases h with rfl | rfl <;> simp
      · rw [if_neg h]
        symm
        rw [List.map_eq_nil_iff, List.filter_eq_nil_iff]
        intro c _
        show ¬ ((s == 42 || s == 48) && mt f c) = true
        simp only [not_or] at h
        simp [h.1, h.2]
    · by_cases h : s = 49 ∨ s = 42
      · rw [if_pos h]; congr 1
        refine List.filter_congr fun c _ => ?_
        show _ = ((s == 42 || s == 49) && mt f c)
        rcases h with rfl | rfl <;> simp
      · rw [if_neg h]
        symm
        rw [List.map_eq_nil_iff, List.filter_eq_nil_iff]
        intro c _
        show ¬ ((s == 42 || s == 49) && mt f c) = true
        simp only [not_or] at h
        simp [h.1, h.2]
theorem allC_len : ∀ {n : Nat} {c : Text}, c ∈ allC n → c.length = n
  | 0, c, h => by rw [List.mem_singleton.mp h]; rfl
  | n + 1, c, h => by
    rcases List.mem_append.mp h with h | h <;>
    · obtain ⟨d, hd, rfl⟩ := List.mem_map.mp h
      rw [List.length_cons, allC_len hd]
theorem allC_length : ∀ n : Nat, (allC n).length = 2 ^ n
  | 0 => rfl
  | n + 1 => by
    show (List.map _ _ ++ List.map _ _).length = _
    rw [List.length_append, List.length_map, List.length_map, allC_length n, Nat.pow_succ]; omega
theorem crn_len {f c : Text} (h : c ∈ crn f) : c.length = f.length := by
  rw [crn_filter] at h
  exact allC_len (List.mem_filter.mp h).1
theorem crn_count : ∀ {f : Text}, isF f → (crn f).length = 2 ^ f.count 42
  | [], _ => rfl
  | s :: f, h => by
    have ih := crn_count (f := f) fun c hc => h c (List.mem_cons_of_mem _ hc)
    rcases h s List.mem_cons_self with rfl | rfl | rfl
    · simp [crn, ih]
    · simp [crn, ih]
    · simp [crn, ih, Nat.pow_succ]; omega
theorem crn_le (f : Text) : (crn f).length ≤ 2 ^ f.length := by
  rw [crn_filter, ← allC_length]
  exact List.length_filter_le _ _
/-- a number's sign at so many bits below its last -/
def bt (x : Int) : Nat := if x % 2 = 0 then 48 else 49
/-- a number as a corner of so many bits -/
def cN : Nat → Int → Text
  | 0, _ => []
  | b + 1, x => bt (x / 2 ^ b) :: cN b x
theorem cN_len : ∀ (b : Nat) (x : Int), (cN b x).length = b
  | 0, _ => rfl
  | b + 1, x => congrArg (· + 1) (cN_len b x)
theorem cN_add : ∀ (b : Nat) (x : Int) (m : Int), cN b (x + m * 2 ^ b) = cN b x
  | 0, _, _ => rfl
  | b + 1, x, m => by
    have e : x + m * 2 ^ (b + 1) = x + (2 * m) * 2 ^ b := by rw [Int.pow_succ, Int.mul_comm (2 ^ b) 2, ← Int.mul_assoc, Int.mul_comm m 2]
    show bt _ :: _ = bt _ :: _
    rw [e, cN_add b x (2 * m), Int.add_mul_ediv_right _ _ (Int.pow_ne_zero (by decide))]
    congr 1
    unfold bt
    have : (x / 2 ^ b + 2 * m) % 2 = x / 2 ^ b % 2 := by omega
    rw [this]
theorem two_pow (b : Nat) : ((2 ^ b : Nat) : Int) = (2 : Int) ^ b := by simp
theorem allC_rg : ∀ b : Nat, (rg 0 (2 ^ b)).map (cN b) = allC b
  | 0 => rfl
  | b + 1 => by
    rw [Nat.pow_succ, Nat.mul_two, rg_add, Int.zero_add, List.map_append]
    have e : rg ((2 ^ b : Nat) : Int) (2 ^ b) = (rg 0 (2 ^ b)).map (· + ((2 ^ b : Nat) : Int)) := by rw [← rg_map_add, Int.zero_add]
    rw [e, List.map_map]
    show _ = (allC b).map (48 :: ·) ++ (allC b).map (49 :: ·)
    rw [← allC_rg b, List.map_map, List.map_map]
    have hp : (0 : Int) < 2 ^ b := Int.pow_pos (by decide)
    congr 1
    · refine List.map_congr_left fun x hx => ?_
      have hx := rg_mem.mp hx
      rw [two_pow] at hx
      show bt (x / 2 ^ b) :: cN b x = 48 :: cN b x
      rw [Int.ediv_eq_zero_of_lt hx.1 (by omega)]; rfl
    · refine List.map_congr_left fun x hx => ?_
      have hx := rg_mem.mp hx
      rw [two_pow] at hx
      show bt ((x + ((2 ^ b : Nat) : Int)) / 2 ^ b) :: cN b (x + ((2 ^ b : Nat) : Int)) = 49 :: cN b x
      rw [two_pow]
      have h := cN_add b x 1
      rw [Int.one_mul] at h
      have h2 := Int.add_mul_ediv_right x 1 (c := 2 ^ b) (by omega)
      rw [Int.one_mul] at h2
      rw [h, h2, Int.ediv_eq_zero_of_lt hx.1 (by omega)]; rfl
/-- the corners of a face, one sign behind another -/
def stepC (found : List Text) (s : Nat) : List Text := found.flatMap fun c => (if s = 48 ∨ s = 42 then [c ++ [48]] else []) ++ (if s = 49 ∨ s = 42 then [c ++ [49]] else [])
theorem foldl_stepC : ∀ (f : Text) (found : List Text), f.foldl stepC found = found.flatMap fun c => (crn f).map (c ++ ·)
  | [], found => by
    show found = _
    simp [crn]
  | s :: f, found => by
    rw [List.foldl_cons, foldl_stepC f]
    unfold stepC
    rw [List.flatMap_assoc]
    congr 1
    funext c
    by_cases h1 : s = 48 ∨ s = 42 <;> by_cases h2 : s = 49 ∨ s = 42 <;> simp [crn, h1, h2, List.map_map, Function.comp_def]
theorem foldl_crn (f : Text) : f.foldl stepC [[]] = crn f := by
  rw [foldl_stepC]
  simp
end Fc

set_option Elab.async false
set_option linter.all false
set_option maxRecDepth 100000
set_option maxHeartbeats 4000000
/-! sets as texts: tables, numbers of corners, sublists of all corners -/
namespace Tb
open Sm PySem Fc L2
variable {α : Type}
def tab (n : Nat) (f : Int → α) : List α := (rg 0 n).map f
theorem tab_length (n : Nat) (f : Int → α) : (tab n f).length = n := by rw [tab, List.length_map, rg_length]
theorem rg_get {n j : Nat} (h : j < n) : (rg 0 n)[j]? = some (j : Int) := by
  unfold rg
  rw [List.getElem?_map, List.getElem?_range h]
  show some ((0 : Int) + j) = _
  rw [Int.zero_add]
theorem tab_get {n : Nat} {f : Int → α} {j : Nat} (h : j < n) : (tab n f)[j]? = some (f j) := by
  unfold tab
  rw [List.getElem?_map, rg_get h]; rfl
theorem tab_ix {n : Nat} {f : Int → α} {p : Int} (h0 : 0 ≤ p) (h1 : p < n) : ixN (tab n f).length p = some p.toNat := ixN_of h0 (by rw [tab_length]; exact h1)
theorem tab_set {n : Nat} {f : Int → α} {p : Int} {y : α} (h0 : 0 ≤ p) : (tab n f).set p.toNat y = tab n fun q => if q = p then y else f q := by
  obtain ⟨j, rfl⟩ := Int.eq_ofNat_of_zero_le h0
  rw [Int.toNat_natCast]
  refine List.ext_getElem? fun i => ?_
  by_cases hi : i < n
  · rw [tab_get hi]
    by_cases e : j = i
    · subst e; rw [List.getElem?_set_self (by rw [tab_length]; exact hi), if_pos rfl]
    · rw [List.getElem?_set_ne e, tab_get hi, if_neg (by omega)]
  · rw [List.getElem?_eq_none (by rw [List.length_set, tab_length]; omega), List.getElem?_eq_none (by rw [tab_length]; omega)]
theorem tab_congr {n : Nat} {f g : Int → α} (h : ∀ p : Int, 0 ≤ p → p < n → f p = g p) : tab n f = tab n g :=
  List.map_congr_left fun p hp => h p (rg_mem.mp hp).1 (by have := (rg_mem.mp hp).2; omega)
theorem tab_const (n : Nat) (a : α) : (List.replicate n [a]).flatten = tab n fun _ => a := by
  refine List.ext_getElem? fun i => ?_
  have e : (List.replicate n [a]).flatten = List.replicate n a := by
    induction n with
    | zero => rfl
    | succ n ih => rw [List.replicate_succ, List.flatten_cons, ih, List.replicate_succ]; rfl
  rw [e, List.getElem?_replicate]
  by_cases hi : i < n
  · rw [if_pos hi, tab_get hi]
  · rw [if_neg hi, List.getElem?_eq_none (by rw [tab_length]; omega)]
/-- a corner's number -/
def nv (c : Int) (t : Text) : Int := t.foldl (fun c s => 2 * c + (if s = 49 then 1 else 0)) c
theorem nv_cN (x : Int) : ∀ m : Nat, nv (x / 2 ^ m) (cN m x) = x
  | 0 => by show x / 2 ^ 0 = x; rw [Int.pow_zero, Int.ediv_one]
  | m + 1 => by
    have ih := nv_cN x m
    show nv (2 * (x / 2 ^ (m + 1)) + (if bt (x / 2 ^ m) = 49 then 1 else 0)) (cN m x) = x
    have e : 2 * (x / 2 ^ (m + 1)) + (if bt (x / 2 ^ m) = 49 then 1 else 0) = x / 2 ^ m := by
      have e0 : x / 2 ^ (m + 1) = x / 2 ^ m / 2 := by rw [Int.pow_succ, Int.ediv_ediv_of_nonneg (Int.le_of_lt (Int.pow_pos (by decide)))]
      rw [e0]
      generalize x / 2 ^ m = a
      unfold bt
      by_cases g : a % 2 = 0
      · rw [if_pos g]; show 2 * (a / 2) + 0 = a; omega
      · rw [if_neg g]; show 2 * (a / 2) + 1 = a; omega
    rw [e]; exact ih
theorem nv_of {b : Nat} {x : Int} (h0 : 0 ≤ x) (h1 : x < 2 ^ b) : nv 0 (cN b x) = x := by
  have h := nv_cN x b
  rw [Int.ediv_eq_zero_of_lt h0 h1] at h
  exact h
theorem cN_inj {b : Nat} {x y : Int} (h0 : 0 ≤ x) (h1 : x < 2 ^ b) (g0 : 0 ≤ y) (g1 : y < 2 ^ b) (h : cN b x = cN b y) : x = y := by
  rw [← nv_of h0 h1, h, nv_of g0 g1]
theorem allC_nodup : ∀ b : Nat, (allC b).Nodup
  | 0 => by show [([] : Text)].Nodup; simp
  | b + 1 => by
    show (List.map (48 :: ·) (allC b) ++ List.map (49 :: ·) (allC b)).Nodup
    have ih := allC_nodup b
    refine List.nodup_append.mpr ⟨List.pairwise_map.mpr (ih.imp fun h e => h (List.cons.inj e).2), List.pairwise_map.mpr (ih.imp fun h e => h (List.cons.inj e).2), fun x hx y hy e => ?_⟩
    obtain ⟨u, _, rfl⟩ := List.mem_map.mp hx
    obtain ⟨v, _, rfl⟩ := List.mem_map.mp hy
    exact absurd (List.cons.inj e).1 (by decide)
theorem allC_mem {b : Nat} {c : Text} (h : c ∈ allC b) : ∃ x : Int, 0 ≤ x ∧ x < 2 ^ b ∧ c = cN b x := by
  rw [← allC_rg] at h
  obtain ⟨x, hx, rfl⟩ := List.mem_map.mp h
  have := rg_mem.mp hx
  rw [two_pow] at this
  exact ⟨x, this.1, by omega, rfl⟩
theorem sub_filter [DecidableEq α] {l z : List α} (h : z.Sublist l) : l.Nodup → l.filter (fun c => memB c z) = z := by
  induction h with
  | slnil => intro _; rfl
  | cons a h ih =>
    intro hn
    obtain ⟨h1, h2⟩ := List.nodup_cons.mp hn
    rw [List.filter_cons, if_neg (by rw [memB_iff]; exact fun q => h1 (h.subset q)), ih h2]
  | cons_cons a h ih =>
    intro hn
    obtain ⟨h1, h2⟩ := List.nodup_cons.mp hn
    rw [List.filter_cons, if_pos (by rw [memB_iff]; exact List.mem_cons_self)]
    congr 1
    refine Eq.trans (List.filter_congr fun c hc => ?_) (ih h2)
    rw [Bool.eq_iff_iff, memB_iff, memB_iff]
    constructor
    · intro q
      rcases List.mem_cons.mp q with rfl | q
      · exact absurd hc h1
      · exact q
    · exact fun q => List.mem_cons_of_mem _ q
/-- a set as a text -/
def shw (b : Nat) (z : List Text) : Text := (allC b).map fun c => if memB c z = true then 49 else 48
theorem shw_length (b : Nat) (z : List Text) : (shw b z).length = 2 ^ b := by rw [shw, List.length_map, allC_length]
theorem flat_map_one (f : α → Nat) : ∀ l : List α, (l.map fun c => [f c]).flatten = l.map f
  | [] => rfl
  | a :: l => by rw [List.map_cons, List.flatten_cons, flat_map_one f l]; rfl
theorem crn_star : ∀ b : Nat, crn (List.replicate b 42) = allC b
  | 0 => rfl
  | b + 1 => by
    rw [List.replicate_succ]
    show (if (42 : Nat) = 48 ∨ (42 : Nat) = 42 then _ else _) ++ (if (42 : Nat) = 49 ∨ (42 : Nat) = 42 then _ else _) = _
    rw [if_pos (.inr rfl), if_pos (.inr rfl), crn_star b]; rfl
theorem zip_read (z : List Text) : ∀ l : List Text, (l.zip (sgs (l.map fun c => if memB c z = true then 49 else 48))).filterMap (fun p => if (eqB p.2 [49]) = true then some p.1 else none) = l.filter fun c => memB c z
  | [] => rfl
  | c :: l => by
    have ih := zip_read z l
    show List.filterMap _ ((c, [if memB c z = true then 49 else 48]) :: (l.zip (sgs (l.map fun c => if memB c z = true then 49 else 48)))) = _
    rw [List.filterMap_cons, List.filter_cons, ih]
    by_cases g : memB c z = true
    · simp only [g, if_true]; rfl
    · simp only [g]; rfl
end Tb

set_option Elab.async false
set_option linter.all false
set_option maxRecDepth 100000
set_option maxHeartbeats 4000000
/-! orders of texts, numbers, pairs; faces in order -/
namespace Od
open Sm PySem Fc Tb
/-! ### sorting -/
theorem sort_eq {α : Type} {le : α → α → Bool} (tr : ∀ a b c, le a b = true → le b c = true → le a c = true) (tot : ∀ a b, (le a b || le b a) = true) {xs ys : List α}
    (an : ∀ a b, a ∈ xs → b ∈ ys → le a b = true → le b a = true → a = b) (hy : ys.Pairwise fun a b => le a b = true) : xs.mergeSort le = ys ↔ xs.Perm ys := by
  constructor
  · rintro rfl
    exact (List.mergeSort_perm _ _).symm
  · intro h
    exact List.Perm.eq_of_pairwise (fun a b ha hb => an a b (List.mem_mergeSort.mp ha) hb) (List.pairwise_mergeSort tr tot xs) hy ((List.mergeSort_perm _ _).trans h)
/-! ### the orders of data in plain words -/
theorem leT : PySem.W.dataLe false eT = fun a b => decide (a ≤ b) := (PySem.W.dataLe_str (fun x : Text => (⟨x.toArray⟩ : Str))).trans (by funext a b; simp)
theorem leI : PySem.W.dataLe false eI = fun a b => decide (a ≤ b) := PySem.W.dataLe_int (fun x : Int => x)
theorem ltI (x y : Int) : ltE eI x y = decide (x < y) := PySem.W.dataLt_int x y
theorem ltT (x y : Text) : ltE eT x y = decide (x < y) := (PySem.W.dataLt_str ⟨x.toArray⟩ ⟨y.toArray⟩).trans (by simp)
theorem ltLI (x y : List Int) : ltE (eL eI) x y = decide (x < y) := by
  show PySem.W.dataLt (.list (x.map .int)) (.list (y.map .int)) = _
  rw [PySem.W.dataLt_list]
  exact PySem.W.dataLt_ints x y
theorem leLI : PySem.W.dataLe false (eL eI) = fun a b => decide (a ≤ b) := PySem.W.dataLe_rows (fun x : List Int => x)
theorem lePT {α : Type} [DecidableEq α] {e : α → PyData} {f : Text → PyData} (hf : f = eT) (al : ∀ a b, PySem.W.alike (e a) (e b) = true) (lt : α → α → Bool) (hlt : ∀ a b, PySem.W.dataLt (e a) (e b) = lt a b) (inj : ∀ a b, PyData.eqv (e a) (e b) = true ↔ a = b) (p q : α × Text) :
    PySem.W.dataLe false (eP e f) p q = if p.1 = q.1 then decide (p.2 ≤ q.2) else !lt q.1 p.1 := by
  subst hf
  show (!PySem.W.dataLt (.tuple [e q.1, eT q.2]) (.tuple [e p.1, eT p.2])) = _
  rw [PySem.W.dataLt_pair (al _ _) (by simp only [eT, PySem.W.alike])]
  by_cases h : p.1 = q.1
  · rw [if_pos ((inj _ _).mpr h.symm), if_pos h]
    by_cases g : PyData.eqv (eT q.2) (eT p.2) = true
    · rw [if_pos g]
      have : q.2 = p.2 := by
        simp only [eT, PyData.eqv, beq_iff_eq] at g
        simpa using g
      rw [this]; simp
    · rw [if_neg g]
      show (!ltE eT q.2 p.2) = _
      rw [ltT]
      exact PySem.W.not_lt_str p.2 q.2
  · rw [if_neg (fun g => h ((inj _ _).mp g).symm), if_neg h, hlt]
theorem leTT (p q : Text × Text) : PySem.W.dataLe false (eP eT eT) p q = if p.1 = q.1 then decide (p.2 ≤ q.2) else decide (p.1 ≤ q.1) := by
  rw [lePT rfl (fun a b => by simp only [eT, PySem.W.alike]) (fun a b => decide (a < b)) (fun a b => ltT a b) (fun a b => by simp only [eT, PyData.eqv, beq_iff_eq]; simp)]
  congr 1
  exact PySem.W.not_lt_str p.1 q.1
theorem alLI (a b : List Int) : PySem.W.alike (eL eI a) (eL eI b) = true := by
  show PySem.W.alike (.list (a.map .int)) (.list (b.map .int)) = true
  rw [PySem.W.alike]
  induction a generalizing b with
  | nil => rw [List.map_nil, PySem.W.alikeAll]
  | cons x a ih =>
    cases b with
    | nil => rw [List.map_nil, List.map_cons, PySem.W.alikeAll]
    | cons y b => rw [List.map_cons, List.map_cons, PySem.W.alikeAll, ih b]; simp [PySem.W.alike]
theorem inLI (a b : List Int) : PyData.eqv (eL eI a) (eL eI b) = true ↔ a = b := by
  show PyData.eqv (.list (a.map .int)) (.list (b.map .int)) = true ↔ _
  have h := eqAll (d := PyData.int) (fun x y => by simp only [PyData.eqv]; exact Bool.beq_eq_decide_eq _ _) a b
  simp only [PyData.eqv]
  rw [h]; simp
theorem leLT (p q : List Int × Text) : PySem.W.dataLe false (eP (eL eI) eT) p q = if p.1 = q.1 then decide (p.2 ≤ q.2) else decide (p.1 ≤ q.1) := by
  rw [lePT rfl alLI (fun a b => decide (a < b)) (fun a b => ltLI a b) inLI]
  congr 1
  have h := congrFun (congrFun leLI p.1) q.1
  rw [← h, PySem.W.dataLe_eq]
  show _ = !ltE (eL eI) q.1 p.1
  rw [ltLI]
/-! ### faces in order: 0, 1, a star -/
def dg (c : Nat) : Nat := if c = 42 then 50 else c
def od (f : Text) : Text := f.map dg
theorem od_len (f : Text) : (od f).length = f.length := List.length_map ..
theorem od_inj : ∀ {f g : Text}, isF f → isF g → od f = od g → f = g
  | [], [], _, _, _ => rfl
  | [], _ :: _, _, _, e => by cases e
  | _ :: _, [], _, _, e => by cases e
  | a :: f, b :: g, hf, hg, e => by
    obtain ⟨e1, e2⟩ := List.cons.inj e
    rw [od_inj (fun c hc => hf c (List.mem_cons_of_mem _ hc)) (fun c hc => hg c (List.mem_cons_of_mem _ hc)) e2]
    have e1 : dg a = dg b := e1
    congr 1
    rcases hf a List.mem_cons_self with rfl | rfl | rfl <;> rcases hg b List.mem_cons_self with rfl | rfl | rfl <;> first | rfl | exact absurd e1 (by decide)
def fle (f g : Text) : Bool := decide (od f ≤ od g)
abbrev flt (f g : Text) : Prop := od f < od g
theorem fle_tr (a b c : Text) (h : fle a b = true) (g : fle b c = true) : fle a c = true := by
  unfold fle at h g ⊢
  exact decide_eq_true (List.le_trans (of_decide_eq_true h) (of_decide_eq_true g))
theorem fle_tot (a b : Text) : (fle a b || fle b a) = true := by
  unfold fle
  rcases List.le_total (od a) (od b) with h | h <;> simp [h]
theorem fle_an {a b : Text} (ha : isF a) (hb : isF b) (h : fle a b = true) (g : fle b a = true) : a = b :=
  od_inj ha hb (List.le_antisymm (of_decide_eq_true h) (of_decide_eq_true g))
def srtF (fs : List Text) : List Text := fs.mergeSort fle
theorem srtF_perm (fs : List Text) : (srtF fs).Perm fs := List.mergeSort_perm _ _
theorem srtF_len (fs : List Text) : (srtF fs).length = fs.length := (srtF_perm fs).length_eq
theorem srtF_sorted (fs : List Text) : (srtF fs).Pairwise fun a b => fle a b = true := List.pairwise_mergeSort fle_tr fle_tot fs
theorem srtF_iff {fs gs : List Text} (h : ∀ f ∈ fs, isF f) (hg : gs.Pairwise fun a b => fle a b = true) : srtF fs = gs ↔ fs.Perm gs := by
  constructor
  · rintro rfl; exact (srtF_perm fs).symm
  · intro p
    exact (sort_eq fle_tr fle_tot (fun a b ha hb => fle_an (h a ha) (h b (p.mem_iff.mpr hb))) hg).mpr p
theorem srtF_self {fs : List Text} : srtF fs = fs ↔ fs.Pairwise fun a b => fle a b = true :=
  ⟨fun e => by rw [← e]; exact srtF_sorted fs, fun h => List.mergeSort_of_pairwise h⟩
/-- pairs sorted by their first, of one kind of row -/
theorem srtF_pairs {α : Type} {le : α × Text → α × Text → Bool} {key : Text → α} {fs : List Text} (h : ∀ f ∈ fs, ∀ g ∈ fs, le (key f, f) (key g, g) = fle f g) :
    ((fs.map fun f => (key f, f)).mergeSort le).map (·.2) = srtF fs := by
  have e := List.map_mergeSort (r := le) (s := fle) (f := fun p : α × Text => p.2) (l := fs.map fun f => (key f, f)) (fun a ha b hb => by
    obtain ⟨f, hf, rfl⟩ := List.mem_map.mp ha
    obtain ⟨g, hg, rfl⟩ := List.mem_map.mp hb
    exact h f hf g hg)
  rw [e, List.map_map]
  show (fs.map fun f => f).mergeSort fle = _
  rw [List.map_id']; rfl
/-! ### corners in order: as texts, as numbers -/
theorem od_corner : ∀ {c : Text}, (∀ d ∈ c, d = 48 ∨ d = 49) → od c = c
  | [], _ => rfl
  | a :: c, h => by
    show dg a :: od c = _
    rw [od_corner fun d hd => h d (List.mem_cons_of_mem _ hd)]
    rcases h a List.mem_cons_self with rfl | rfl <;> rfl
theorem allC_signs : ∀ {b : Nat} {c : Text}, c ∈ allC b → ∀ d ∈ c, d = 48 ∨ d = 49
  | 0, c, h, d, hd => by rw [List.mem_singleton.mp h] at hd; cases hd
  | b + 1, c, h, d, hd => by
    rcases List.mem_append.mp h with h | h <;>
    · obtain ⟨e, he, rfl⟩ := List.mem_map.mp h
      rcases List.mem_cons.mp hd with rfl | hd
      · simp
      · exact allC_signs he d hd
theorem allC_sorted : ∀ b : Nat, (allC b).Pairwise (· < ·)
  | 0 => by show [([] : Text)].Pairwise _; simp
  | b + 1 => by
    have ih := allC_sorted b
    refine List.pairwise_append.mpr ⟨List.pairwise_map.mpr (ih.imp fun h => List.cons_lt_cons_iff.mpr (.inr ⟨rfl, h⟩)), List.pairwise_map.mpr (ih.imp fun h => List.cons_lt_cons_iff.mpr (.inr ⟨rfl, h⟩)), fun x hx y hy => ?_⟩
    obtain ⟨u, _, rfl⟩ := List.mem_map.mp hx
    obtain ⟨v, _, rfl⟩ := List.mem_map.mp hy
    exact List.cons_lt_cons_iff.mpr (.inl (by decide))
theorem sub_sorted {b : Nat} {z : List Text} (h : z.Sublist (allC b)) : z.Pairwise (· < ·) := (allC_sorted b).sublist h
theorem sub_le {b : Nat} {z : List Text} (h : z.Sublist (allC b)) : z.Pairwise fun a b => decide (a ≤ b) = true := (sub_sorted h).imp fun q => decide_eq_true (List.le_of_lt q)
theorem sub_nodup {b : Nat} {z : List Text} (h : z.Sublist (allC b)) : z.Nodup := (allC_nodup b).sublist h
/-- sorted corners are a set just where they are its corners -/
theorem srt_corners {b : Nat} {z xs : List Text} (h : z.Sublist (allC b)) : srtE eT xs = z ↔ xs.Perm z := by
  show xs.mergeSort (PySem.W.dataLe false eT) = z ↔ _
  rw [leT]
  exact sort_eq (le := fun a b : Text => decide (a ≤ b)) (fun a b c h g => decide_eq_true (List.le_trans (of_decide_eq_true h) (of_decide_eq_true g))) (fun a b => by rcases List.le_total a b with h | h <;> simp [h]) (fun a b (_ : a ∈ xs) (_ : b ∈ z) h g => List.le_antisymm (of_decide_eq_true h) (of_decide_eq_true g)) (sub_le h)
theorem srt_ints {xs ys : List Int} (h : ys.Pairwise (· < ·)) : srtE eI xs = ys ↔ xs.Perm ys := by
  show xs.mergeSort (PySem.W.dataLe false eI) = ys ↔ _
  rw [leI]
  exact sort_eq (le := fun a b : Int => decide (a ≤ b)) (fun a b c h g => decide_eq_true (Int.le_trans (of_decide_eq_true h) (of_decide_eq_true g))) (fun a b => by rcases Int.le_total a b with h | h <;> simp [h]) (fun a b _ _ h g => Int.le_antisymm (of_decide_eq_true h) (of_decide_eq_true g)) (h.imp fun q => decide_eq_true (Int.le_of_lt q))
end Od

set_option Elab.async false
set_option linter.all false
set_option maxRecDepth 100000
set_option maxHeartbeats 4000000
/-! partings: what is one, faces made one -/
namespace Pt
open Sm PySem Fc Tb Od
theorem isF_tail {a : Nat} {f : Text} (h : isF (a :: f)) : isF f := fun c hc => h c (List.mem_cons_of_mem _ hc)
theorem isF_append {f g : Text} (h : isF f) (q : isF g) : isF (f ++ g) := fun c hc => (List.mem_append.mp hc).elim (h c) (q c)
theorem crn_ne : ∀ {f : Text}, isF f → crn f ≠ []
  | [], _ => by simp [crn]
  | a :: f, h => by
    have ih := crn_ne (isF_tail h)
    rcases h a List.mem_cons_self with rfl | rfl | rfl <;> simp [crn, ih]
/-! ### cuts -/
theorem cut_take {α : Type} (f : List α) (u : Nat) : cutG f none (some (u : Int)) = f.take u := by
  unfold cutG
  rw [HT.sIx_none, HT.sIx_nat, List.drop_zero, Nat.sub_zero]
  by_cases h : u ≤ f.length
  · rw [Nat.min_eq_left h]
  · rw [Nat.min_eq_right (by omega), List.take_length, List.take_of_length_le (by omega)]
theorem cut_drop {α : Type} (f : List α) (u : Nat) : cutG f (some (u : Int)) none = f.drop u := by
  unfold cutG
  rw [HT.sIx_none, HT.sIx_nat]
  by_cases h : u ≤ f.length
  · rw [Nat.min_eq_left h]
    exact List.take_of_length_le (by rw [List.length_drop]; exact Nat.le_refl _)
  · rw [Nat.min_eq_right (by omega), Nat.sub_self, List.take_zero, List.drop_eq_nil_of_le (by omega)]
theorem cut_drop1 {α : Type} (f : List α) (u : Nat) : cutG f (some ((u : Int) + 1)) none = f.drop (u + 1) := cut_drop f (u + 1)
theorem cut_mid {α : Type} (f : List α) (u v : Nat) : cutG f (some (u : Int)) (some (v : Int)) = (f.take v).drop u := by
  unfold cutG
  rw [HT.sIx_nat, HT.sIx_nat, List.drop_take]
  by_cases h : u ≤ f.length
  · rw [Nat.min_eq_left h]
    by_cases g : v ≤ f.length
    · rw [Nat.min_eq_left g]
    · rw [Nat.min_eq_right (by omega), List.take_of_length_le (by rw [List.length_drop]; exact Nat.le_refl _), List.take_of_length_le (by rw [List.length_drop]; omega)]
  · rw [Nat.min_eq_right (Nat.le_of_not_le h), List.drop_eq_nil_of_le (Nat.le_refl _), List.drop_eq_nil_of_le (Nat.le_of_not_le h)]; simp
theorem cut_sub {α : Type} (f : List α) (lo hi : Option Int) : (cutG f lo hi).Sublist f := (List.take_sublist _ _).trans (List.drop_sublist _ _)
theorem cut_len {α : Type} (f : List α) (lo hi : Option Int) : (cutG f lo hi).length ≤ f.length := (cut_sub f lo hi).length_le
theorem cut_mem {α : Type} {f : List α} {lo hi : Option Int} {x : α} (h : x ∈ cutG f lo hi) : x ∈ f := (cut_sub f lo hi).subset h
/-! ### a parting -/
def Faces (b : Nat) (fs : List Text) : Prop := ∀ f ∈ fs, f.length = b ∧ isF f
structure Part (b : Nat) (z fs : List Text) : Prop where
  fc : Faces b fs
  up : fs.Pairwise flt
  cs : (fs.flatMap crn).Perm z
instance isFDec (f : Text) : Decidable (isF f) := by unfold isF; infer_instance
instance (b : Nat) (fs : List Text) : Decidable (Faces b fs) := by unfold Faces; infer_instance
instance (b : Nat) (z fs : List Text) : Decidable (Part b z fs) :=
  if h : Faces b fs ∧ fs.Pairwise flt ∧ (fs.flatMap crn).Perm z then .isTrue ⟨h.1, h.2.1, h.2.2⟩ else .isFalse fun q => h ⟨q.fc, q.up, q.cs⟩
theorem crn_nodup : ∀ f : Text, (crn f).Nodup := fun f => by
  rw [crn_filter]; exact (allC_nodup _).filter _
theorem faces_nodup : ∀ {fs : List Text}, (∀ f ∈ fs, isF f) → (fs.flatMap crn).Nodup → fs.Nodup
  | [], _, _ => List.nodup_nil
  | f :: fs, h, n => by
    rw [List.flatMap_cons, List.nodup_append] at n
    refine List.nodup_cons.mpr ⟨fun hm => ?_, faces_nodup (fun g hg => h g (List.mem_cons_of_mem _ hg)) n.2.1⟩
    obtain ⟨c, hc⟩ := List.exists_mem_of_ne_nil _ (crn_ne (h f List.mem_cons_self))
    exact n.2.2 c hc c (List.mem_flatMap.mpr ⟨f, hm, hc⟩) rfl
theorem strict_of {fs : List Text} (h : ∀ f ∈ fs, isF f) (n : fs.Nodup) (s : fs.Pairwise fun a b => fle a b = true) : fs.Pairwise flt := by
  refine List.Pairwise.imp_of_mem ?_ (s.and n)
  rintro a b ha hb ⟨l, ne⟩
  by_cases q : od a < od b
  · exact q
  · exact absurd (od_inj (h a ha) (h b hb) (List.le_antisymm (of_decide_eq_true l) (List.not_lt.mp q))) ne
theorem le_of_strict {fs : List Text} (s : fs.Pairwise flt) : fs.Pairwise fun a b => fle a b = true := s.imp fun q => decide_eq_true (List.le_of_lt q)
theorem Part.nodup {b : Nat} {z fs : List Text} (h : Part b z fs) (hz : z.Nodup) : fs.Nodup := faces_nodup (fun f hf => (h.fc f hf).2) (h.cs.nodup_iff.mpr hz)
/-- sorted, faces with just these corners are a parting -/
theorem Part.sorted {b : Nat} {z fs : List Text} (hz : z.Nodup) (h : Faces b fs) (c : (fs.flatMap crn).Perm z) : Part b z (srtF fs) := by
  have hm : ∀ f, f ∈ srtF fs ↔ f ∈ fs := fun f => (srtF_perm fs).mem_iff
  have hF : Faces b (srtF fs) := fun f hf => h f ((hm f).mp hf)
  have hc : ((srtF fs).flatMap crn).Perm z := ((srtF_perm fs).flatMap_right _).trans c
  exact ⟨hF, strict_of (fun f hf => (hF f hf).2) (faces_nodup (fun f hf => (hF f hf).2) (hc.nodup_iff.mpr hz)) (srtF_sorted fs), hc⟩
theorem part_looked {b : Nat} {z fs : List Text} (hz : z.Sublist (allC b)) (h : Faces b fs) : Part b z fs ↔ srtF fs = fs ∧ srtE eT (fs.flatMap crn) = z := by
  rw [srt_corners hz, srtF_self]
  constructor
  · intro p; exact ⟨le_of_strict p.up, p.cs⟩
  · rintro ⟨p1, p2⟩
    exact ⟨h, strict_of (fun f hf => (h f hf).2) (faces_nodup (fun f hf => (h f hf).2) (p2.nodup_iff.mpr (sub_nodup hz))) p1, p2⟩
/-! ### corners as numbers -/
theorem sub_nums {b : Nat} {z : List Text} (h : z.Sublist (allC b)) : (z.map (nv 0)).Pairwise (· < ·) := by
  have e : (allC b).map (nv 0) = rg 0 (2 ^ b) := by
    rw [← allC_rg, List.map_map]
    refine (List.map_congr_left fun x hx => ?_).trans (List.map_id _)
    have := rg_mem.mp hx
    rw [two_pow] at this
    exact nv_of this.1 (by omega)
  have h2 : (rg 0 (2 ^ b)).Pairwise (· < ·) := by
    unfold rg
    refine List.pairwise_map.mpr (List.pairwise_lt_range.imp fun q => ?_)
    omega
  rw [← e] at h2
  exact h2.sublist (h.map _)
theorem perm_nums {b : Nat} {xs ys : List Text} (hx : ∀ c ∈ xs, c ∈ allC b) (hy : ∀ c ∈ ys, c ∈ allC b) : (xs.map (nv 0)).Perm (ys.map (nv 0)) ↔ xs.Perm ys := by
  have key : ∀ {l : List Text}, (∀ c ∈ l, c ∈ allC b) → (l.map (nv 0)).map (cN b) = l := fun {l} hl => by
    rw [List.map_map]
    refine (List.map_congr_left fun c hc => ?_).trans (List.map_id _)
    obtain ⟨x, x0, x1, rfl⟩ := allC_mem (hl c hc)
    show cN b (nv 0 (cN b x)) = _
    rw [nv_of x0 x1]; rfl
  constructor
  · intro p
    have := p.map (cN b)
    rwa [key hx, key hy] at this
  · intro p; exact p.map _
/-- a face's corners as numbers, as the laws reckon them -/
def lstep (ns : List Int) (s : Nat) : List Int := (ns.map fun n => 2 * n + (if s = 49 then 1 else 0)) ++ (if s = 42 then ns.map (fun n => 2 * n + 1) else [])
def lnum (f : Text) : List Int := f.foldl lstep [0]
theorem flatMap_two {α β : Type} (p q : α → List β) : ∀ l : List α, (l.flatMap p ++ l.flatMap q).Perm (l.flatMap fun x => p x ++ q x)
  | [] => .refl _
  | x :: l => by
    rw [List.flatMap_cons, List.flatMap_cons, List.flatMap_cons, List.append_assoc, List.append_assoc]
    refine List.Perm.append_left _ ?_
    refine List.Perm.trans ?_ (List.Perm.append_left (q x) (flatMap_two p q l))
    rw [← List.append_assoc, ← List.append_assoc]
    exact List.perm_append_comm.append_right _
theorem lnum_perm : ∀ {f : Text} (ns : List Int), isF f → (f.foldl lstep ns).Perm (ns.flatMap fun n => (crn f).map (nv n))
  | [], ns, _ => by
    show ns.Perm _
    have : (ns.flatMap fun n => (crn []).map (nv n)) = ns := by
      show (ns.flatMap fun n => [n]) = ns
      simp
    rw [this]
  | s :: f, ns, h => by
    rw [List.foldl_cons]
    refine (lnum_perm _ (isF_tail h)).trans ?_
    rcases h s List.mem_cons_self with rfl | rfl | rfl
    · have e : lstep ns 48 = ns.map fun n => 2 * n + 0 := by simp [lstep]
      rw [e, List.flatMap_map]
      simp only [crn]
      simp [List.map_map, Function.comp_def, nv]
      exact .refl _
    · have e : lstep ns 49 = ns.map fun n => 2 * n + 1 := by simp [lstep]
      rw [e, List.flatMap_map]
      simp only [crn]
      simp [List.map_map, Function.comp_def, nv]
      exact .refl _
    · have e : lstep ns 42 = (ns.map fun n => 2 * n + 0) ++ ns.map fun n => 2 * n + 1 := by simp [lstep]
      rw [e, List.flatMap_append, List.flatMap_map, List.flatMap_map]
      have e2 : (ns.flatMap fun n => (crn (42 :: f)).map (nv n)) = ns.flatMap fun n => ((crn f).map (nv (2 * n + 0))) ++ ((crn f).map (nv (2 * n + 1))) := by
        simp only [crn]
        simp [List.map_map, Function.comp_def, nv]
        rfl
      rw [e2]
      exact flatMap_two ..
theorem lnum_crn {f : Text} (h : isF f) : (lnum f).Perm ((crn f).map (nv 0)) := by
  refine (lnum_perm [0] h).trans ?_
  rw [List.flatMap_cons]; simp
theorem corner_crn : ∀ {c : Text}, (∀ d ∈ c, d = 48 ∨ d = 49) → crn c = [c]
  | [], _ => rfl
  | a :: c, h => by
    have ih := corner_crn (c := c) fun d hd => h d (List.mem_cons_of_mem _ hd)
    rcases h a List.mem_cons_self with rfl | rfl <;> simp [crn, ih]
theorem corner_isF {c : Text} (h : ∀ d ∈ c, d = 48 ∨ d = 49) : isF c := fun d hd => (h d hd).elim .inl (fun q => .inr (.inl q))
theorem lnum_corner {c : Text} (h : ∀ d ∈ c, d = 48 ∨ d = 49) : lnum c = [nv 0 c] := by
  have p := lnum_crn (corner_isF h)
  rw [corner_crn h] at p
  exact List.perm_singleton.mp p
theorem crn_allC {f c : Text} (h : c ∈ crn f) : c ∈ allC f.length := by
  rw [crn_filter] at h; exact (List.mem_filter.mp h).1
theorem law_looked {b : Nat} {z fs : List Text} (hz : z.Sublist (allC b)) (h : Faces b fs) : srtE eI (fs.flatMap lnum) = z.flatMap lnum ↔ (fs.flatMap crn).Perm z := by
  have e : z.flatMap lnum = z.map (nv 0) := by
    have : ∀ l : List Text, (∀ c ∈ l, c ∈ allC b) → l.flatMap lnum = l.map (nv 0) := fun l => by
      induction l with
      | nil => intro _; rfl
      | cons c l ih =>
        intro hl
        rw [List.flatMap_cons, lnum_corner (allC_signs (hl c List.mem_cons_self)), ih fun d hd => hl d (List.mem_cons_of_mem _ hd)]; rfl
    exact this z fun c hc => hz.subset hc
  rw [e, srt_ints (sub_nums hz)]
  have p : (fs.flatMap lnum).Perm ((fs.flatMap crn).map (nv 0)) := by
    clear e
    induction fs with
    | nil => exact .refl _
    | cons f fs ih =>
      rw [List.flatMap_cons, List.flatMap_cons, List.map_append]
      exact (lnum_crn (h f List.mem_cons_self).2).append (ih fun g hg => h g (List.mem_cons_of_mem _ hg))
  rw [← perm_nums (b := b) (xs := fs.flatMap crn) (ys := z) (fun c hc => ?_) (fun c hc => hz.subset hc)]
  · exact ⟨fun q => p.symm.trans q, fun q => p.trans q⟩
  · obtain ⟨f, hf, hc⟩ := List.mem_flatMap.mp hc
    rw [← (h f hf).1]; exact crn_allC hc
/-! ### rising -/
theorem flt_tr {a b c : Text} (h : flt a b) (g : flt b c) : flt a c := List.lt_trans h g
theorem rising : ∀ {fs : List Text}, (∀ k, k + 1 < fs.length → ∀ f g, fs[k]? = some f → fs[k + 1]? = some g → flt f g) → fs.Pairwise flt
  | [], _ => List.Pairwise.nil
  | [f], _ => by simp
  | f :: g :: fs, h => by
    have ih := rising (fs := g :: fs) fun k hk x y hx hy => h (k + 1) (by simpa using hk) x y (by simpa using hx) (by simpa using hy)
    have h0 : flt f g := h 0 (by simp) f g rfl rfl
    refine List.pairwise_cons.mpr ⟨fun x hx => ?_, ih⟩
    rcases List.mem_cons.mp hx with rfl | hx
    · exact h0
    · exact flt_tr h0 ((List.pairwise_cons.mp ih).1 x hx)
/-- signs as numbers -/
def fd (f : Text) : List Int := f.map fun c => findT [48, 49, 42] [c]
theorem fd_lt : ∀ {f g : Text}, isF f → isF g → (fd f < fd g ↔ flt f g)
  | [], [], _, _ => by simp [fd, flt, od]
  | [], b :: g, _, _ => by simp [fd, flt, od]
  | a :: f, [], _, _ => by simp [fd, flt, od]
  | a :: f, b :: g, hf, hg => by
    have ih := fd_lt (isF_tail hf) (isF_tail hg)
    show (findT [48, 49, 42] [a] :: fd f < findT [48, 49, 42] [b] :: fd g) ↔ (dg a :: od f < dg b :: od g)
    rw [List.cons_lt_cons_iff, List.cons_lt_cons_iff, ih]
    have e1 : findT [48, 49, 42] [48] = 0 := by decide +kernel
    have e2 : findT [48, 49, 42] [49] = 1 := by decide +kernel
    have e3 : findT [48, 49, 42] [42] = 2 := by decide +kernel
    rcases hf a List.mem_cons_self with rfl | rfl | rfl <;> rcases hg b List.mem_cons_self with rfl | rfl | rfl <;> simp only [e1, e2, e3] <;> simp [dg]
theorem fd_inj {f g : Text} (hf : isF f) (hg : isF g) (h : fd f = fd g) : f = g := by
  have h1 : ¬ flt f g := fun q => by have := (fd_lt hf hg).mpr q; rw [h] at this; exact List.lt_irrefl _ this
  have h2 : ¬ flt g f := fun q => by have := (fd_lt hg hf).mpr q; rw [h] at this; exact List.lt_irrefl _ this
  exact od_inj hf hg (List.le_antisymm (List.not_lt.mp h2) (List.not_lt.mp h1))
/-! ### two faces made one -/
def unl : Text → Text → List Nat
  | a :: f, c :: g => if a = c then (unl f g).map (· + 1) else 0 :: (unl f g).map (· + 1)
  | _, _ => []
def oneOf (f g : Text) : Option Text :=
  match unl f g with
  | [u] => if (f[u]? = some 48 ∧ g[u]? = some 49) ∨ (f[u]? = some 49 ∧ g[u]? = some 48) then some (f.take u ++ [42] ++ f.drop (u + 1)) else none
  | _ => none
theorem unl_nil : ∀ {f g : Text}, f.length = g.length → (unl f g = [] ↔ f = g)
  | [], [], _ => by simp [unl]
  | a :: f, c :: g, h => by
    have ih := unl_nil (f := f) (g := g) (by simpa using h)
    unfold unl
    by_cases e : a = c
    · rw [if_pos e]; simp [ih, e]
    · rw [if_neg e]; simp [e]
theorem unl_one : ∀ {f g : Text} {u : Nat}, f.length = g.length → unl f g = [u] → ∃ p r a c, f = p ++ a :: r ∧ g = p ++ c :: r ∧ p.length = u ∧ a ≠ c
  | [], [], u, _, h => by cases h
  | a :: f, c :: g, u, hl, h => by
    have hl' : f.length = g.length := by simpa using hl
    unfold unl at h
    by_cases e : a = c
    · rw [if_pos e] at h
      cases hu : unl f g with
      | nil => rw [hu] at h; cases h
      | cons v vs =>
        rw [hu] at h
        simp only [List.map_cons, List.cons.injEq, List.map_eq_nil_iff] at h
        obtain ⟨h1, h2⟩ := h
        subst h2
        obtain ⟨p, r, x, y, e1, e2, e3, e4⟩ := unl_one hl' hu
        exact ⟨a :: p, r, x, y, by rw [e1]; rfl, by rw [e2, e]; rfl, by rw [List.length_cons, e3, h1], e4⟩
    · rw [if_neg e] at h
      simp only [List.cons.injEq, List.map_eq_nil_iff] at h
      obtain ⟨h1, h2⟩ := h
      exact ⟨[], f, a, c, rfl, by rw [(unl_nil hl').mp h2]; rfl, h1, e⟩
theorem unl_of : ∀ (p : Text) {r : Text} {a c : Nat}, a ≠ c → unl (p ++ a :: r) (p ++ c :: r) = [p.length]
  | [], r, a, c, h => by
    show (if a = c then _ else _) = _
    rw [if_neg h, (unl_nil rfl).mpr rfl]; rfl
  | x :: p, r, a, c, h => by
    have ih := unl_of p (r := r) h
    show (if x = x then (unl (p ++ a :: r) (p ++ c :: r)).map (· + 1) else _) = _
    rw [if_pos rfl, ih]; rfl
theorem oneOf_some {f g h : Text} (hl : f.length = g.length) (e : oneOf f g = some h) : ∃ p r, h = p ++ 42 :: r ∧ ((f = p ++ 48 :: r ∧ g = p ++ 49 :: r) ∨ (f = p ++ 49 :: r ∧ g = p ++ 48 :: r)) := by
  unfold oneOf at e
  split at e
  · rename_i u hu
    obtain ⟨p, r, a, c, e1, e2, e3, e4⟩ := unl_one hl hu
    subst e1 e2 e3
    split at e
    · rename_i q
      injection e with e
      refine ⟨p, r, ?_, ?_⟩
      · rw [← e]; simp
      · simp only [List.getElem?_append_right (Nat.le_refl _), Nat.sub_self, List.getElem?_cons_zero, Option.some.injEq] at q
        rcases q with ⟨rfl, rfl⟩ | ⟨rfl, rfl⟩
        · exact .inl ⟨rfl, rfl⟩
        · exact .inr ⟨rfl, rfl⟩
    · cases e
  · cases e
theorem oneOf_of (p r : Text) {a c : Nat} (h : (a = 48 ∧ c = 49) ∨ (a = 49 ∧ c = 48)) : oneOf (p ++ a :: r) (p ++ c :: r) = some (p ++ 42 :: r) := by
  unfold oneOf
  rw [unl_of p (by rcases h with ⟨rfl, rfl⟩ | ⟨rfl, rfl⟩ <;> decide)]
  simp [h]
theorem oneOf_self (f : Text) : oneOf f f = none := by
  unfold oneOf
  rw [(unl_nil rfl).mpr rfl]
theorem crn_app : ∀ (p f : Text), crn (p ++ f) = (crn p).flatMap fun c => (crn f).map (c ++ ·)
  | [], f => by simp [crn]
  | a :: p, f => by
    show crn (a :: (p ++ f)) = _
    simp only [crn, crn_app p f]
    by_cases h1 : a = 48 ∨ a = 42 <;> by_cases h2 : a = 49 ∨ a = 42 <;> simp [h1, h2, List.flatMap_append, List.flatMap_map, List.map_flatMap, List.map_map, Function.comp_def]
theorem crn_star_split (p r : Text) : (crn (p ++ 42 :: r)).Perm (crn (p ++ 48 :: r) ++ crn (p ++ 49 :: r)) := by
  rw [crn_app, crn_app, crn_app]
  have e : (fun c => (crn (42 :: r)).map (c ++ ·)) = fun c : Text => (crn (48 :: r)).map (c ++ ·) ++ (crn (49 :: r)).map (c ++ ·) := by
    funext c
    simp [crn]
  rw [e]
  exact (flatMap_two ..).symm
theorem oneOf_crn {f g h : Text} (hl : f.length = g.length) (e : oneOf f g = some h) : (crn h).Perm (crn f ++ crn g) := by
  obtain ⟨p, r, rfl, ⟨rfl, rfl⟩ | ⟨rfl, rfl⟩⟩ := oneOf_some hl e
  · exact crn_star_split p r
  · exact (crn_star_split p r).trans List.perm_append_comm
theorem oneOf_face {f g h : Text} {b : Nat} (hf : f.length = b ∧ isF f) (hg : g.length = b ∧ isF g) (e : oneOf f g = some h) : h.length = b ∧ isF h := by
  obtain ⟨p, r, rfl, q⟩ := oneOf_some (hf.1.trans hg.1.symm) e
  have key : ∀ a : Nat, (p ++ a :: r).length = b → isF (p ++ a :: r) → (p ++ 42 :: r).length = b ∧ isF (p ++ 42 :: r) := fun a h1 h2 => by
    refine ⟨by rw [← h1]; simp, fun c hc => ?_⟩
    rcases List.mem_append.mp hc with hc | hc
    · exact h2 c (List.mem_append_left _ hc)
    · rcases List.mem_cons.mp hc with rfl | hc
      · exact .inr (.inr rfl)
      · exact h2 c (List.mem_append_right _ (List.mem_cons_of_mem _ hc))
  rcases q with ⟨rfl, rfl⟩ | ⟨rfl, rfl⟩
  · exact key _ hf.1 hf.2
  · exact key _ hf.1 hf.2
/-- made coarser: any two that make one made one -/
inductive Crs : List Text → List Text → Prop
  | refl (fs) : Crs fs fs
  | step {fs gs rest : List Text} {f g h : Text} : Crs fs gs → gs.Perm (f :: g :: rest) → oneOf f g = some h → Crs fs (rest ++ [h])
theorem Crs.faces {b : Nat} {fs gs : List Text} (c : Crs fs gs) (h : Faces b fs) : Faces b gs ∧ gs.length ≤ fs.length ∧ (gs.flatMap crn).Perm (fs.flatMap crn) := by
  induction c with
  | refl => exact ⟨h, Nat.le_refl _, .refl _⟩
  | @step gs rest f g k c p e ih =>
    obtain ⟨h1, h2, h3⟩ := ih
    have hf := h1 f (p.mem_iff.mpr (by simp))
    have hg := h1 g (p.mem_iff.mpr (by simp))
    have hk := oneOf_face hf hg e
    refine ⟨fun x hx => ?_, ?_, ?_⟩
    · rcases List.mem_append.mp hx with hx | hx
      · exact h1 x (p.mem_iff.mpr (by simp [hx]))
      · rw [List.mem_singleton.mp hx]; exact hk
    · have := p.length_eq
      simp only [List.length_cons, List.length_append, List.length_nil] at this ⊢
      omega
    · refine List.Perm.trans ?_ ((p.flatMap_right crn).symm.trans h3)
      rw [List.flatMap_append]
      simp only [List.flatMap_cons, List.flatMap_nil, List.append_nil]
      refine (List.Perm.append_left _ (oneOf_crn (hf.1.trans hg.1.symm) e)).trans ?_
      rw [← List.append_assoc (crn f)]
      exact List.perm_append_comm
theorem Crs.part {b : Nat} {z fs gs : List Text} (c : Crs fs gs) (hz : z.Nodup) (h : Part b z fs) : Part b z (srtF gs) := by
  obtain ⟨h1, _, h3⟩ := c.faces h.fc
  exact Part.sorted hz h1 (h3.trans h.cs)
/-- the corners alone are a parting -/
theorem corners_part {b : Nat} {z : List Text} (hz : z.Sublist (allC b)) : Part b z z := by
  have hs : ∀ c ∈ z, ∀ d ∈ c, d = 48 ∨ d = 49 := fun c hc => allC_signs (hz.subset hc)
  refine ⟨fun f hf => ⟨allC_len (hz.subset hf), corner_isF (hs f hf)⟩, ?_, ?_⟩
  · refine List.Pairwise.imp_of_mem ?_ (sub_sorted hz)
    intro a c ha hc q
    show od a < od c
    rw [od_corner (hs a ha), od_corner (hs c hc)]; exact q
  · have : z.flatMap crn = z := by
      clear hz
      induction z with
      | nil => rfl
      | cons c z ih =>
        rw [List.flatMap_cons, corner_crn (hs c List.mem_cons_self), ih fun d hd => hs d (List.mem_cons_of_mem _ hd)]; rfl
    rw [this]
/-- two of a row out -/
theorem two_out {α : Type} {xs : List α} {i j : Nat} {x y : α} (hi : xs[i]? = some x) (hj : xs[j]? = some y) (hij : i ≠ j) :
    xs.Perm (x :: y :: (enI xs).filterMap fun p => if (!memB p.1 [(i : Int), (j : Int)]) = true then some p.2 else none) := by
  have key : ∀ (xs : List α) (o i j : Nat), i ≠ j → ∀ x y, xs[i]? = some x → xs[j]? = some y →
      xs.Perm (x :: y :: ((xs.zipIdx o).map fun p => ((p.2 : Int), p.1)).filterMap fun p => if (!memB p.1 [((o + i : Nat) : Int), ((o + j : Nat) : Int)]) = true then some p.2 else none) := by
    have none_out : ∀ (xs : List α) (o : Nat) (a b : Int), a < o → b < o → (((xs.zipIdx o).map fun p => ((p.2 : Int), p.1)).filterMap fun p => if (!memB p.1 [a, b]) = true then some p.2 else none) = xs := by
      intro xs
      induction xs with
      | nil => intros; rfl
      | cons z xs ih =>
        intro o a b ha hb
        rw [List.zipIdx_cons, List.map_cons, List.filterMap_cons, ih (o + 1) a b (by omega) (by omega)]
        have : memB (o : Int) [a, b] = false := by
          rw [Bool.eq_false_iff]; intro q
          rw [memB_iff] at q
          simp at q; omega
        simp [this]
    have one_out : ∀ (xs : List α) (o i : Nat) (a : Int), a < o → ∀ x, xs[i]? = some x → xs.Perm (x :: ((xs.zipIdx o).map fun p => ((p.2 : Int), p.1)).filterMap fun p => if (!memB p.1 [a, ((o + i : Nat) : Int)]) = true then some p.2 else none) := by
      intro xs
      induction xs with
      | nil => intro o i a _ x h; cases h
      | cons z xs ih =>
        intro o i a ha x hx
        rw [List.zipIdx_cons, List.map_cons, List.filterMap_cons]
        cases i with
        | zero =>
          have : memB (o : Int) [a, ((o + 0 : Nat) : Int)] = true := by rw [memB_iff]; simp
          simp only [this]
          rw [none_out xs (o + 1) a _ (by omega) (by omega)]
          have : z = x := by simpa using hx
          subst this; exact .refl _
        | succ i =>
          have : memB (o : Int) [a, ((o + (i + 1) : Nat) : Int)] = false := by
            rw [Bool.eq_false_iff]; intro q
            rw [memB_iff] at q
            simp at q; omega
          simp only [this]
          have := ih (o + 1) i a (by omega) x (by simpa using hx)
          rw [show o + 1 + i = o + (i + 1) by omega] at this
          exact (List.Perm.cons z this).trans (List.Perm.swap ..)
    have swap_out : ∀ (a b : Int) (l : List (Int × α)), (l.filterMap fun p => if (!memB p.1 [a, b]) = true then some p.2 else none) = l.filterMap fun p => if (!memB p.1 [b, a]) = true then some p.2 else none := by
      intro a b l
      congr 1
      funext p
      have : memB p.1 [a, b] = memB p.1 [b, a] := by
        rw [Bool.eq_iff_iff, memB_iff, memB_iff]; simp [or_comm]
      rw [this]
    intro xs
    induction xs with
    | nil => intro o i j _ x y h; cases h
    | cons z xs ih =>
      intro o i j hij x y hx hy
      rw [List.zipIdx_cons, List.map_cons, List.filterMap_cons]
      cases i with
      | zero =>
        cases j with
        | zero => exact absurd rfl hij
        | succ j =>
          have : memB (o : Int) [((o + 0 : Nat) : Int), ((o + (j + 1) : Nat) : Int)] = true := by rw [memB_iff]; simp
          simp only [this]
          have e : z = x := by simpa using hx
          subst e
          have := one_out xs (o + 1) j ((o + 0 : Nat) : Int) (by omega) y (by simpa using hy)
          rw [show o + 1 + j = o + (j + 1) by omega] at this
          exact List.Perm.cons z this
      | succ i =>
        cases j with
        | zero =>
          have : memB (o : Int) [((o + (i + 1) : Nat) : Int), ((o + 0 : Nat) : Int)] = true := by rw [memB_iff]; simp
          simp only [this]
          have e : z = y := by simpa using hy
          subst e
          have := one_out xs (o + 1) i ((o + 0 : Nat) : Int) (by omega) x (by simpa using hx)
          rw [show o + 1 + i = o + (i + 1) by omega] at this
          rw [swap_out]
          exact (List.Perm.cons z this).trans (List.Perm.swap ..)
        | succ j =>
          have : memB (o : Int) [((o + (i + 1) : Nat) : Int), ((o + (j + 1) : Nat) : Int)] = false := by
            rw [Bool.eq_false_iff]; intro q
            rw [memB_iff] at q
            simp at q; omega
          simp only [this]
          have := ih (o + 1) i j (by omega) x y (by simpa using hx) (by simpa using hy)
          rw [show o + 1 + i = o + (i + 1) by omega, show o + 1 + j = o + (j + 1) by omega] at this
          exact (List.Perm.cons z this).trans ((List.Perm.swap ..).trans (List.Perm.cons _ (List.Perm.swap ..)))
  have := key xs 0 i j hij x y hi hj
  simpa [enI] using this
end Pt

set_option Elab.async false
set_option linter.all false
set_option maxRecDepth 100000
set_option maxHeartbeats 4000000
/-! finer partings, sizes, common faces, bits in another order -/
namespace Pq
open Sm PySem Fc Tb Od Pt
/-! ### a face in a face -/
theorem mt_cons (a c : Nat) (f g : Text) : mt (a :: f) (c :: g) = ((a == 42 || a == c) && mt f g) := rfl
theorem mt_refl : ∀ f : Text, mt f f = true
  | [] => rfl
  | a :: f => by rw [mt_cons, mt_refl f]; simp
theorem mt_tr : ∀ {f g h : Text}, f.length = g.length → g.length = h.length → mt f g = true → mt g h = true → mt f h = true
  | [], [], _, _, _, _, _ => by unfold Fc.mt; rfl
  | a :: f, c :: g, d :: h, h1, h2, p, q => by
    rw [mt_cons] at p q ⊢
    simp only [Bool.and_eq_true, Bool.or_eq_true, beq_iff_eq] at p q ⊢
    refine ⟨?_, mt_tr (by simpa using h1) (by simpa using h2) p.2 q.2⟩
    rcases p.1 with r | r
    · exact .inl r
    · rcases q.1 with s | s
      · exact .inl (r.trans s)
      · exact .inr (r.trans s)
theorem mt_an : ∀ {f g : Text}, f.length = g.length → mt f g = true → mt g f = true → f = g
  | [], [], _, _, _ => rfl
  | a :: f, c :: g, h1, p, q => by
    rw [mt_cons] at p q
    simp only [Bool.and_eq_true, Bool.or_eq_true, beq_iff_eq] at p q
    have e : a = c := by
      rcases p.1 with r | r
      · rcases q.1 with s | s
        · exact r.trans s.symm
        · exact s.symm
      · exact r
    rw [e, mt_an (by simpa using h1) p.2 q.2]
theorem mt_split (p r : Text) (a : Nat) : mt (p ++ 42 :: r) (p ++ a :: r) = true := by
  induction p with
  | nil => rw [List.nil_append, List.nil_append, mt_cons, mt_refl]; rfl
  | cons c p ih => rw [List.cons_append, List.cons_append, mt_cons, ih]; simp
theorem crn_mem {f c : Text} : c ∈ crn f ↔ c ∈ allC f.length ∧ mt f c = true := by rw [crn_filter, List.mem_filter]
theorem crn_sub {f g : Text} (hl : f.length = g.length) (h : mt g f = true) {c : Text} (hc : c ∈ crn f) : c ∈ crn g := by
  obtain ⟨h1, h2⟩ := crn_mem.mp hc
  refine crn_mem.mpr ⟨hl ▸ h1, mt_tr hl.symm (allC_len h1).symm h h2⟩
def fin (one other : List Text) : Bool := one.all fun f => other.any fun g => mt g f
theorem fin_iff {one other : List Text} : fin one other = true ↔ ∀ f ∈ one, ∃ g ∈ other, mt g f = true := by
  unfold fin
  simp only [List.all_eq_true, List.any_eq_true]
theorem flat_same : ∀ {fs : List Text} {f g c : Text}, (fs.flatMap crn).Nodup → f ∈ fs → g ∈ fs → c ∈ crn f → c ∈ crn g → f = g
  | a :: fs, f, g, c, n, hf, hg, cf, cg => by
    rw [List.flatMap_cons, List.nodup_append] at n
    have no : ∀ x ∈ fs, c ∈ crn a → c ∈ crn x → False := fun x hx h1 h2 => n.2.2 c h1 c (List.mem_flatMap.mpr ⟨x, hx, h2⟩) rfl
    rcases List.mem_cons.mp hf with ef | hf2 <;> rcases List.mem_cons.mp hg with eg | hg2
    · exact ef.trans eg.symm
    · exact (no g hg2 (ef ▸ cf) cg).elim
    · exact (no f hf2 (eg ▸ cg) cf).elim
    · exact flat_same n.2.1 hf2 hg2 cf cg
theorem part_in {b : Nat} {z fs : List Text} (hz : z.Nodup) (h : Part b z fs) {f g : Text} (hf : f ∈ fs) (hg : g ∈ fs) (q : mt g f = true) : f = g := by
  obtain ⟨c, hc⟩ := List.exists_mem_of_ne_nil _ (crn_ne (h.fc f hf).2)
  exact flat_same (h.cs.nodup_iff.mpr hz) hf hg hc (crn_sub ((h.fc f hf).1.trans (h.fc g hg).1.symm) q hc)
theorem crs_fin {b : Nat} {fs gs : List Text} (c : Crs fs gs) (h : Faces b fs) : fin fs gs = true := by
  rw [fin_iff]
  induction c with
  | refl => exact fun f hf => ⟨f, hf, mt_refl f⟩
  | @step gs rest f g k c p e ih =>
    intro x hx
    obtain ⟨y, hy, hm⟩ := ih x hx
    have h1 := (c.faces h).1
    have hf := h1 f (p.mem_iff.mpr (by simp))
    have hg := h1 g (p.mem_iff.mpr (by simp))
    have hk := oneOf_face hf hg e
    obtain ⟨u, r, rfl, q⟩ := oneOf_some (hf.1.trans hg.1.symm) e
    have key : ∀ a : Nat, y = u ++ a :: r → mt (u ++ 42 :: r) x = true := fun a ey => by
      refine mt_tr ?_ ((h1 y hy).1.trans (h x hx).1.symm) ?_ hm
      · rw [ey]; simp
      · rw [ey]; exact mt_split _ _ _
    rcases List.mem_cons.mp (p.mem_iff.mp hy) with ey | hy2
    · rcases q with ⟨q1, q2⟩ | ⟨q1, q2⟩ <;> exact ⟨_, by simp, key _ (ey.trans q1)⟩
    · rcases List.mem_cons.mp hy2 with ey | hy2
      · rcases q with ⟨q1, q2⟩ | ⟨q1, q2⟩ <;> exact ⟨_, by simp, key _ (ey.trans q2)⟩
      · exact ⟨y, by simp [hy2], hm⟩
theorem fin_perm {one other other' : List Text} (p : other.Perm other') : fin one other = fin one other' := by
  rw [Bool.eq_iff_iff, fin_iff, fin_iff]
  exact ⟨fun h f hf => let ⟨g, hg, q⟩ := h f hf; ⟨g, p.mem_iff.mp hg, q⟩, fun h f hf => let ⟨g, hg, q⟩ := h f hf; ⟨g, p.mem_iff.mpr hg, q⟩⟩
theorem fin_corners {b : Nat} {z fs : List Text} (hz : z.Sublist (allC b)) (h : Part b z fs) : fin z fs = true := by
  rw [fin_iff]
  intro c hc
  obtain ⟨f, hf, q⟩ := List.mem_flatMap.mp (h.cs.mem_iff.mpr hc)
  exact ⟨f, hf, (crn_mem.mp q).2⟩
theorem fin_back {b : Nat} {z one other : List Text} (hz : z.Nodup) (h1 : Part b z one) (h2 : Part b z other) (h : fin one other = true) : fin other one = decide (other = one) := by
  rw [Bool.eq_iff_iff, decide_eq_true_iff]
  constructor
  · intro g
    rw [fin_iff] at h g
    have key : ∀ {p q : List Text}, Part b z p → Part b z q → (∀ f ∈ p, ∃ g ∈ q, mt g f = true) → (∀ f ∈ q, ∃ g ∈ p, mt g f = true) → ∀ f ∈ p, f ∈ q := fun {p q} hp hq a c f hf => by
      obtain ⟨x, hx, mx⟩ := a f hf
      obtain ⟨y, hy, my⟩ := c x hx
      have lx := (hp.fc f hf).1
      have ex : f = y := part_in hz hp hf hy (mt_tr ((hp.fc y hy).1.trans (hq.fc x hx).1.symm) ((hq.fc x hx).1.trans lx.symm) my mx)
      rw [← ex] at my
      rw [mt_an (lx.trans (hq.fc x hx).1.symm) my mx]; exact hx
    have pm : other.Perm one := (List.perm_ext_iff_of_nodup (h2.nodup hz) (h1.nodup hz)).mpr fun f => ⟨key h2 h1 g h f, key h1 h2 h g f⟩
    have e1 := (srtF_iff (fun f hf => (h2.fc f hf).2) (le_of_strict h1.up)).mpr pm
    have e2 := srtF_self.mpr (le_of_strict h2.up)
    rw [← e1, e2]
  · rintro rfl
    exact fin_iff.mpr fun f hf => ⟨f, hf, mt_refl f⟩
/-! ### sizes -/
theorem sum_add (f g : Nat → Nat) : ∀ l : List Nat, (l.map fun k => f k + g k).sum = (l.map f).sum + (l.map g).sum
  | [] => rfl
  | a :: l => by simp only [List.map_cons, List.sum_cons, sum_add f g l]; omega
theorem sum_one (a : Nat) (w : Nat → Nat) : ∀ n, ((List.range n).map fun k => if a = k then w k else 0).sum = if a < n then w a else 0
  | 0 => rfl
  | n + 1 => by
    rw [List.range_succ, List.map_append, List.sum_append, sum_one a w n]
    simp only [List.map_cons, List.map_nil, List.sum_cons, List.sum_nil]
    by_cases h : a = n
    · subst h; simp
    · by_cases q : a < n
      · rw [if_pos q, if_neg h, if_pos (show a < n + 1 by omega)]; rfl
      · rw [if_neg q, if_neg h, if_neg (show ¬ a < n + 1 by omega)]; rfl
theorem sum_at (n : Nat) (w : Nat → Nat) : ∀ l : List Nat, (∀ x ∈ l, x < n) → ((List.range n).map fun k => l.count k * w k).sum = (l.map w).sum
  | [], _ => by
    simp only [List.count_nil, Nat.zero_mul, List.map_nil, List.sum_nil]
    induction List.range n with
    | nil => rfl
    | cons a l ih => rw [List.map_cons, List.sum_cons, ih]; rfl
  | a :: l, h => by
    have ih := sum_at n w l fun x hx => h x (List.mem_cons_of_mem _ hx)
    have e : ((List.range n).map fun k => (a :: l).count k * w k) = (List.range n).map fun k => l.count k * w k + if a = k then w k else 0 := List.map_congr_left fun k _ => by
      rw [List.count_cons]
      by_cases q : a = k
      · subst q; simp [Nat.add_mul]
      · simp [q]
    rw [e, sum_add, ih, sum_one, if_pos (h a List.mem_cons_self), List.map_cons, List.sum_cons]; omega
def stars (fs : List Text) : List Nat := fs.map fun f => f.count 42
theorem star_lt {b : Nat} {fs : List Text} (h : Faces b fs) : ∀ x ∈ stars fs, x < b + 1 := fun x hx => by
  obtain ⟨f, hf, rfl⟩ := List.mem_map.mp hx
  have := List.count_le_length (a := 42) (l := f)
  rw [(h f hf).1] at this; omega
theorem sizes_all {b : Nat} {fs : List Text} (h : Faces b fs) : ((List.range (b + 1)).map fun k => (stars fs).count k).sum = fs.length := by
  have := sum_at (b + 1) (fun _ => 1) (stars fs) (star_lt h)
  simp only [Nat.mul_one] at this
  rw [this]
  have e : ((stars fs).map fun _ => 1).sum = (stars fs).length := by
    induction stars fs with
    | nil => rfl
    | cons a l ih => rw [List.map_cons, List.sum_cons, ih, List.length_cons]; omega
  rw [e]; exact List.length_map ..
theorem sizes_corners {b : Nat} {z fs : List Text} (h : Part b z fs) : ((List.range (b + 1)).map fun k => (stars fs).count k * 2 ^ k).sum = z.length := by
  rw [sum_at (b + 1) (fun k => 2 ^ k) (stars fs) (star_lt h.fc), ← h.cs.length_eq, List.length_flatMap]
  unfold stars
  rw [List.map_map]
  congr 1
  exact List.map_congr_left fun f hf => (crn_count (h.fc f hf).2).symm
/-! ### common faces -/
def cm : Text → Text → Option Text
  | x :: f, y :: g => if x ≠ 42 ∧ y ≠ 42 ∧ x ≠ y then none else (cm f g).map ((if x = 42 then y else x) :: ·)
  | _, _ => some []
theorem cm_some : ∀ {f g h : Text}, f.length = g.length → isF f → isF g → cm f g = some h → h.length = f.length ∧ isF h ∧ mt f h = true ∧ mt g h = true ∧ ∀ c : Text, c.length = f.length → mt h c = (mt f c && mt g c)
  | [], [], h, _, _, _, e => by
    have e : some ([] : Text) = some h := e
    cases e
    exact ⟨rfl, (fun c hc => by cases hc), rfl, rfl, fun c hc => by rw [List.eq_nil_of_length_eq_zero hc]; rfl⟩
  | x :: f, y :: g, h, hl, hf, hg, e => by
    have e : (if x ≠ 42 ∧ y ≠ 42 ∧ x ≠ y then none else (cm f g).map ((if x = 42 then y else x) :: ·)) = some h := e
    split at e
    · cases e
    · rename_i no
      obtain ⟨r, er, rfl⟩ := Option.map_eq_some_iff.mp e
      obtain ⟨i1, i2, i3, i4, i5⟩ := cm_some (by simpa using hl) (isF_tail hf) (isF_tail hg) er
      have fx := hf x List.mem_cons_self
      have fy := hg y List.mem_cons_self
      refine ⟨by simp [i1], fun c hc => ?_, ?_, ?_, fun c hc => ?_⟩
      · rcases List.mem_cons.mp hc with rfl | hc
        · split
          · exact fy
          · exact fx
        · exact i2 c hc
      · rw [mt_cons, i3]
        by_cases q : x = 42 <;> simp [q]
      · rw [mt_cons, i4]
        by_cases q : x = 42
        · simp [q]
        · by_cases q2 : y = 42
          · simp [q2]
          · have : x = y := Decidable.byContradiction fun q3 => no ⟨q, q2, q3⟩
            simp [this]
      · cases c with
        | nil => simp at hc
        | cons d c =>
          rw [mt_cons, mt_cons, mt_cons, i5 c (by simpa using hc)]
          by_cases q : x = 42
          · subst q; rw [if_pos rfl]; cases mt f c <;> simp
          · rw [if_neg q]
            by_cases q2 : y = 42
            · subst q2
              simp only [beq_self_eq_true, Bool.true_or, Bool.true_and]
              rw [Bool.and_assoc]
            · have : x = y := Decidable.byContradiction fun q3 => no ⟨q, q2, q3⟩
              subst this
              cases (x == 42 || x == d) <;> simp
theorem cm_none : ∀ {f g : Text}, f.length = g.length → cm f g = none → ∀ c : Text, c.length = f.length → (mt f c && mt g c) = false
  | [], [], _, e, _, _ => by cases e
  | x :: f, y :: g, hl, e, [], hc => by simp at hc
  | x :: f, y :: g, hl, e, d :: c, hc => by
    have e : (if x ≠ 42 ∧ y ≠ 42 ∧ x ≠ y then none else (cm f g).map ((if x = 42 then y else x) :: ·)) = none := e
    rw [mt_cons, mt_cons]
    split at e
    · rename_i h
      obtain ⟨h1, h2, h3⟩ := h
      have : ¬ (x = d ∧ y = d) := fun q => h3 (q.1.trans q.2.symm)
      by_cases q1 : x = d
      · have q2 : y ≠ d := fun q => this ⟨q1, q⟩
        simp [h2, q2]
      · simp [h1, q1]
    · have := cm_none (by simpa using hl) (Option.map_eq_none_iff.mp e) c (by simpa using hc)
      cases h1 : mt f c <;> cases h2 : mt g c <;> simp_all
theorem count_crn {f c : Text} : (crn f).count c = if c ∈ allC f.length ∧ mt f c = true then 1 else 0 := by
  have n := List.nodup_iff_count.mp (crn_nodup f) c
  by_cases h : c ∈ crn f
  · have := List.count_pos_iff.mpr h
    rw [if_pos (crn_mem.mp h)]; omega
  · rw [if_neg (fun q => h (crn_mem.mpr q)), List.count_eq_zero_of_not_mem h]
theorem cm_count {b : Nat} {f g c : Text} (hf : f.length = b ∧ isF f) (hg : g.length = b ∧ isF g) : (match cm f g with | none => 0 | some h => (crn h).count c) = (crn f).count c * (crn g).count c := by
  by_cases hc : c ∈ allC b
  · have lc := allC_len hc
    have e1 : (crn f).count c = if mt f c = true then 1 else 0 := by rw [count_crn, hf.1]; simp [hc]
    have e2 : (crn g).count c = if mt g c = true then 1 else 0 := by rw [count_crn, hg.1]; simp [hc]
    rw [e1, e2]
    cases e : cm f g with
    | none =>
      have := cm_none (hf.1.trans hg.1.symm) e c (lc.trans hf.1.symm)
      cases h1 : mt f c <;> cases h2 : mt g c <;> simp_all
    | some h =>
      obtain ⟨i1, _, _, _, i5⟩ := cm_some (hf.1.trans hg.1.symm) hf.2 hg.2 e
      show (crn h).count c = _
      rw [count_crn, i1, hf.1, i5 c (lc.trans hf.1.symm)]
      cases h1 : mt f c <;> cases h2 : mt g c <;> simp [hc]
  · have e1 : (crn f).count c = 0 := by rw [count_crn, hf.1]; simp [hc]
    rw [e1, Nat.zero_mul]
    cases e : cm f g with
    | none => rfl
    | some h =>
      obtain ⟨i1, _⟩ := cm_some (hf.1.trans hg.1.symm) hf.2 hg.2 e
      show (crn h).count c = 0
      rw [count_crn, i1, hf.1]; simp [hc]
theorem cm_counts {b : Nat} {f c : Text} (hf : f.length = b ∧ isF f) : ∀ {gs : List Text}, Faces b gs → ((gs.filterMap (cm f)).flatMap crn).count c = (crn f).count c * (gs.flatMap crn).count c
  | [], _ => by simp
  | g :: gs, h => by
    have ih := cm_counts (c := c) hf (gs := gs) fun x hx => h x (List.mem_cons_of_mem _ hx)
    have e := cm_count (c := c) hf (h g List.mem_cons_self)
    rw [List.flatMap_cons, List.count_append, Nat.mul_add, ← ih, ← e, List.filterMap_cons]
    cases cm f g with
    | none => simp
    | some k => rw [List.flatMap_cons, List.count_append]
def common (one other : List Text) : List Text := one.flatMap fun f => other.filterMap (cm f)
theorem common_counts {b : Nat} {c : Text} {gs : List Text} (hg : Faces b gs) : ∀ {fs : List Text}, Faces b fs → ((common fs gs).flatMap crn).count c = (fs.flatMap crn).count c * (gs.flatMap crn).count c
  | [], _ => by simp [common]
  | f :: fs, h => by
    have ih := common_counts (c := c) hg (fs := fs) fun x hx => h x (List.mem_cons_of_mem _ hx)
    unfold common at ih ⊢
    rw [List.flatMap_cons, List.flatMap_append, List.count_append, ih, cm_counts (h f List.mem_cons_self) hg, List.flatMap_cons, List.count_append, Nat.add_mul]
theorem common_mem {b : Nat} {fs gs : List Text} (hf : Faces b fs) (hg : Faces b gs) {h : Text} (hh : h ∈ common fs gs) : ∃ f ∈ fs, ∃ g ∈ gs, (h.length = b ∧ isF h) ∧ mt f h = true ∧ mt g h = true := by
  obtain ⟨f, h1, h2⟩ := List.mem_flatMap.mp hh
  obtain ⟨g, h3, h4⟩ := List.mem_filterMap.mp h2
  obtain ⟨i1, i2, i3, i4, _⟩ := cm_some ((hf f h1).1.trans (hg g h3).1.symm) (hf f h1).2 (hg g h3).2 h4
  exact ⟨f, h1, g, h3, ⟨i1.trans (hf f h1).1, i2⟩, i3, i4⟩
theorem common_part {b : Nat} {z fs gs : List Text} (hz : z.Nodup) (h1 : Part b z fs) (h2 : Part b z gs) : Part b z (srtF (common fs gs)) ∧ fin (srtF (common fs gs)) fs = true ∧ fin (srtF (common fs gs)) gs = true := by
  have mem := fun h (hh : h ∈ common fs gs) => common_mem h1.fc h2.fc hh
  have ms : ∀ h, h ∈ srtF (common fs gs) ↔ h ∈ common fs gs := fun h => (srtF_perm _).mem_iff
  refine ⟨Part.sorted hz (fun h hh => let ⟨_, _, _, _, q, _⟩ := mem h hh; q) (List.perm_iff_count.mpr fun c => ?_), ?_, ?_⟩
  · rw [common_counts h2.fc h1.fc, h1.cs.count_eq, h2.cs.count_eq]
    have := List.nodup_iff_count.mp hz c
    have : z.count c = 0 ∨ z.count c = 1 := by omega
    rcases this with q | q <;> rw [q]
  · exact fin_iff.mpr fun h hh => let ⟨f, hf, _, _, _, q, _⟩ := mem h ((ms h).mp hh); ⟨f, hf, q⟩
  · exact fin_iff.mpr fun h hh => let ⟨_, _, g, hg, _, _, q⟩ := mem h ((ms h).mp hh); ⟨g, hg, q⟩
/-! ### bits in another order, turned about -/
def flp (u c : Nat) : Nat := if u = 0 then c else if c = 48 then 49 else if c = 49 then 48 else c
def ot (order turned : List Nat) (t : Text) : Text := (order.zip turned).map fun p => flp p.2 (t.getD p.1 0)
theorem allC_all : ∀ {b : Nat} {c : Text}, c.length = b → (∀ d ∈ c, d = 48 ∨ d = 49) → c ∈ allC b
  | 0, c, h, _ => by rw [List.eq_nil_of_length_eq_zero h]; exact List.mem_singleton.mpr rfl
  | b + 1, [], h, _ => by cases h
  | b + 1, d :: c, h, g => by
    have ih := allC_all (b := b) (c := c) (by simpa using h) fun x hx => g x (List.mem_cons_of_mem _ hx)
    show _ ∈ (allC b).map (48 :: ·) ++ (allC b).map (49 :: ·)
    rcases g d List.mem_cons_self with rfl | rfl
    · exact List.mem_append_left _ (List.mem_map.mpr ⟨c, ih, rfl⟩)
    · exact List.mem_append_right _ (List.mem_map.mpr ⟨c, ih, rfl⟩)
theorem flp_inj (u : Nat) {a c : Nat} (ha : a = 48 ∨ a = 49 ∨ a = 42) (hc : c = 48 ∨ c = 49 ∨ c = 42) (h : flp u a = flp u c) : a = c := by
  unfold flp at h
  by_cases q : u = 0
  · simpa [q] using h
  · rcases ha with rfl | rfl | rfl <;> rcases hc with rfl | rfl | rfl <;> simp_all
theorem flp_star (u c : Nat) : (flp u c == 42) = (c == 42) := by
  unfold flp
  by_cases q : u = 0
  · rw [if_pos q]
  · rw [if_neg q]
    by_cases h1 : c = 48
    · subst h1; rfl
    · rw [if_neg h1]
      by_cases h2 : c = 49
      · subst h2; rfl
      · rw [if_neg h2]
theorem flp_face (u : Nat) {c : Nat} (h : c = 48 ∨ c = 49 ∨ c = 42) : flp u c = 48 ∨ flp u c = 49 ∨ flp u c = 42 := by
  unfold flp
  by_cases q : u = 0
  · rw [if_pos q]; exact h
  · rw [if_neg q]; rcases h with rfl | rfl | rfl <;> simp
theorem flp_sign (u : Nat) {c : Nat} (h : c = 48 ∨ c = 49) : flp u c = 48 ∨ flp u c = 49 := by
  unfold flp
  by_cases q : u = 0
  · rw [if_pos q]; exact h
  · rw [if_neg q]; rcases h with rfl | rfl <;> simp
theorem getD_mem {t : Text} {i : Nat} (h : i < t.length) : t.getD i 0 ∈ t := by
  rw [List.getD_eq_getElem?_getD, List.getElem?_eq_getElem h]; exact List.getElem_mem h
theorem mt_get : ∀ {f c : Text}, f.length = c.length → (mt f c = true ↔ ∀ i, i < f.length → f.getD i 0 = 42 ∨ f.getD i 0 = c.getD i 0)
  | [], [], _ => by simp [Fc.mt]
  | a :: f, d :: c, h => by
    rw [mt_cons, Bool.and_eq_true, mt_get (f := f) (c := c) (by simpa using h)]
    simp only [Bool.or_eq_true, beq_iff_eq]
    constructor
    · rintro ⟨h1, h2⟩ i hi
      cases i with
      | zero => exact h1
      | succ i => exact h2 i (by simpa using hi)
    · intro g
      exact ⟨g 0 (by simp), fun i hi => g (i + 1) (by simpa using hi)⟩
section
variable {b : Nat} {order turned : List Nat}
theorem ot_len (hl : turned.length = order.length) (t : Text) : (ot order turned t).length = order.length := by
  unfold ot
  rw [List.length_map, List.length_zip, hl, Nat.min_self]
theorem mt_zip {α : Type} (p q : α → Nat) : ∀ l : List α, (∀ x ∈ l, p x = 42 ∨ p x = q x) → mt (l.map p) (l.map q) = true
  | [], _ => rfl
  | x :: l, h => by
    rw [List.map_cons, List.map_cons, mt_cons, mt_zip p q l fun y hy => h y (List.mem_cons_of_mem _ hy)]
    rcases h x List.mem_cons_self with e | e <;> simp [e]
variable (ho : order.Perm (List.range b)) (hl : turned.length = order.length)
include ho hl
theorem ord_lt {i : Nat} (h : i ∈ order) : i < b := List.mem_range.mp (ho.mem_iff.mp h)
theorem ot_face {t : Text} (h : t.length = b ∧ isF t) : (ot order turned t).length = b ∧ isF (ot order turned t) := by
  refine ⟨by rw [ot_len hl, ho.length_eq, List.length_range], fun c hc => ?_⟩
  obtain ⟨p, hp, rfl⟩ := List.mem_map.mp hc
  exact flp_face _ (h.2 _ (getD_mem (by rw [h.1]; exact ord_lt ho hl (List.of_mem_zip hp).1)))
theorem ot_corner {t : Text} (h : t ∈ allC b) : ot order turned t ∈ allC b := by
  have lt := allC_len h
  refine allC_all (by rw [ot_len hl, ho.length_eq, List.length_range]) fun c hc => ?_
  obtain ⟨p, hp, rfl⟩ := List.mem_map.mp hc
  exact flp_sign _ (allC_signs h _ (getD_mem (by rw [lt]; exact ord_lt ho hl (List.of_mem_zip hp).1)))
theorem ot_mt {f c : Text} (hf : f.length = b) (hc : c.length = b) (h : mt f c = true) : mt (ot order turned f) (ot order turned c) = true := by
  refine mt_zip _ _ _ fun p hp => ?_
  have hi := ord_lt ho hl (List.of_mem_zip hp).1
  rcases (mt_get (hf.trans hc.symm)).mp h p.1 (by omega) with e | e
  · refine .inl ?_
    have := flp_star p.2 (f.getD p.1 0)
    rw [e] at this ⊢
    exact beq_iff_eq.mp this
  · exact .inr (by rw [e])
theorem zip_has {i : Nat} (h : i ∈ order) : ∃ u, (i, u) ∈ order.zip turned := by
  obtain ⟨k, hk⟩ := List.getElem?_of_mem h
  have kl := (List.getElem?_eq_some_iff.mp hk).1
  refine ⟨turned[k]'(by omega), List.mem_of_getElem? (i := k) ?_⟩
  rw [List.getElem?_zip_eq_some]
  exact ⟨hk, List.getElem?_eq_getElem _⟩
theorem ot_inj {s t : Text} (hs : s.length = b ∧ isF s) (ht : t.length = b ∧ isF t) (h : ot order turned s = ot order turned t) : s = t := by
  refine List.ext_getElem? fun i => ?_
  by_cases hi : i < b
  · obtain ⟨u, hu⟩ := zip_has ho hl (ho.mem_iff.mpr (List.mem_range.mpr hi))
    have := List.map_inj_left.mp h (i, u) hu
    have e := flp_inj u (hs.2 _ (getD_mem (by omega))) (ht.2 _ (getD_mem (by omega))) this
    rw [List.getD_eq_getElem?_getD, List.getD_eq_getElem?_getD, List.getElem?_eq_getElem (by omega), List.getElem?_eq_getElem (by omega)] at e
    rw [List.getElem?_eq_getElem (by omega), List.getElem?_eq_getElem (by omega)]
    exact congrArg some e
  · rw [List.getElem?_eq_none (by omega), List.getElem?_eq_none (by omega)]
theorem get_perm {t : Text} (h : t.length = b) : (order.map fun i => t.getD i 0).Perm t := by
  refine (ho.map _).trans (.of_eq ?_)
  refine List.ext_getElem? fun i => ?_
  rw [List.getElem?_map]
  by_cases hi : i < b
  · rw [List.getElem?_range hi, List.getElem?_eq_getElem (by omega)]
    show some (t.getD i 0) = _
    rw [List.getD_eq_getElem?_getD, List.getElem?_eq_getElem (by omega)]; rfl
  · rw [List.getElem?_eq_none (by rw [List.length_range]; omega), List.getElem?_eq_none (by omega)]; rfl
theorem ot_stars {t : Text} (h : t.length = b) : (ot order turned t).count 42 = t.count 42 := by
  rw [← (get_perm ho hl h).count_eq]
  have e : order.map (fun i => t.getD i 0) = (order.zip turned).map fun p => t.getD p.1 0 := by
    have : order = (order.zip turned).map (·.1) := by rw [← List.unzip_fst, List.unzip_zip (by omega)]
    conv => lhs; rw [this, List.map_map]
    rfl
  rw [e]
  unfold ot
  induction order.zip turned with
  | nil => rfl
  | cons p l ih => rw [List.map_cons, List.map_cons, List.count_cons, List.count_cons, ih, flp_star]
theorem ot_crn {f : Text} (h : f.length = b ∧ isF f) : ((crn f).map (ot order turned)).Perm (crn (ot order turned f)) := by
  have hf := ot_face ho hl h
  have fc : ∀ c ∈ crn f, c.length = b ∧ isF c := fun c hc => by
    have := (crn_mem.mp hc).1
    exact ⟨(allC_len this).trans h.1, corner_isF (allC_signs this)⟩
  have nd : ((crn f).map (ot order turned)).Nodup := by
    refine List.pairwise_map.mpr (List.Pairwise.imp_of_mem ?_ (crn_nodup f))
    exact fun ha hc ne e => ne (ot_inj ho hl (fc _ ha) (fc _ hc) e)
  have sub : ∀ d ∈ (crn f).map (ot order turned), d ∈ crn (ot order turned f) := fun d hd => by
    obtain ⟨c, hc, rfl⟩ := List.mem_map.mp hd
    obtain ⟨c1, c2⟩ := crn_mem.mp hc
    refine crn_mem.mpr ⟨?_, ot_mt ho hl h.1 (fc c hc).1 c2⟩
    rw [hf.1]
    rw [h.1] at c1
    exact ot_corner ho hl c1
  have len : (crn (ot order turned f)).length = ((crn f).map (ot order turned)).length := by
    rw [List.length_map, crn_count hf.2, crn_count h.2, ot_stars ho hl h.1]
  refine (List.perm_ext_iff_of_nodup nd (crn_nodup _)).mpr fun d => ⟨sub d, fun hd => ?_⟩
  refine Decidable.byContradiction fun no => ?_
  have := List.Nodup.length_le_of_subset (l₁ := d :: (crn f).map (ot order turned)) (l₂ := crn (ot order turned f)) (List.nodup_cons.mpr ⟨no, nd⟩) fun x hx => by
    rcases List.mem_cons.mp hx with rfl | hx
    · exact hd
    · exact sub x hx
  rw [List.length_cons] at this; omega
/-- a set, turned -/
theorem ot_set {z : List Text} (hz : z.Sublist (allC b)) : (srtE eT (z.map (ot order turned))).Sublist (allC b) ∧ (z.map (ot order turned)).Perm (srtE eT (z.map (ot order turned))) := by
  have fc : ∀ c ∈ z, c.length = b ∧ isF c := fun c hc => ⟨allC_len (hz.subset hc), corner_isF (allC_signs (hz.subset hc))⟩
  have nd : (z.map (ot order turned)).Nodup := by
    refine List.pairwise_map.mpr (List.Pairwise.imp_of_mem ?_ (sub_nodup hz))
    exact fun ha hc ne e => ne (ot_inj ho hl (fc _ ha) (fc _ hc) e)
  have pm : (z.map (ot order turned)).Perm ((allC b).filter fun c => decide (c ∈ z.map (ot order turned))) := by
    refine (List.perm_ext_iff_of_nodup nd ((allC_nodup b).filter _)).mpr fun c => ?_
    rw [List.mem_filter, decide_eq_true_iff]
    refine ⟨fun h => ⟨?_, h⟩, fun h => h.2⟩
    obtain ⟨d, hd, rfl⟩ := List.mem_map.mp h
    exact ot_corner ho hl (hz.subset hd)
  have e := (srt_corners (z := (allC b).filter fun c => decide (c ∈ z.map (ot order turned))) List.filter_sublist).mpr pm
  rw [e]
  exact ⟨List.filter_sublist, pm⟩
theorem ot_part {z fs : List Text} (hz : z.Sublist (allC b)) (h : Part b z fs) : Part b (srtE eT (z.map (ot order turned))) (srtF (fs.map (ot order turned))) := by
  obtain ⟨z1, z2⟩ := ot_set ho hl hz
  refine Part.sorted (sub_nodup z1) (fun f hf => ?_) (List.Perm.trans ?_ z2)
  · obtain ⟨g, hg, rfl⟩ := List.mem_map.mp hf
    exact ot_face ho hl (h.fc g hg)
  · refine List.Perm.trans ?_ (h.cs.map (ot order turned))
    have hc := h.fc
    clear h
    induction fs with
    | nil => exact .refl _
    | cons f fs ih =>
      rw [List.map_cons, List.flatMap_cons, List.flatMap_cons, List.map_append]
      exact (ot_crn ho hl (hc f List.mem_cons_self)).symm.append (ih fun g hg => hc g (List.mem_cons_of_mem _ hg))
theorem ot_sizes {fs : List Text} (h : Faces b fs) (k : Nat) : (stars (srtF (fs.map (ot order turned)))).count k = (stars fs).count k := by
  unfold stars
  rw [((srtF_perm _).map _).count_eq, List.map_map]
  congr 1
  exact List.map_congr_left fun f hf => ot_stars ho hl (h f hf).1
end
end Pq

set_option Elab.async false
set_option linter.all false
set_option maxRecDepth 100000
set_option maxHeartbeats 4000000
/-! masks, partings of masks: enumerated, counted -/
namespace Pc
open Sm PySem Fc Tb Od Pt
/-! ### masks -/
def S (f m : Nat) : Prop := f &&& m = f
instance (f m : Nat) : Decidable (S f m) := by unfold S; infer_instance
theorem S_iff {f m : Nat} : S f m ↔ ∀ i, f.testBit i = true → m.testBit i = true := by
  unfold S
  constructor
  · intro h i hi
    rw [← h, Nat.testBit_and] at hi
    exact (Bool.and_eq_true _ _ ▸ hi).2
  · intro h
    refine Nat.eq_of_testBit_eq fun i => ?_
    rw [Nat.testBit_and]
    cases e : f.testBit i with
    | false => rfl
    | true => rw [h i e]; rfl
theorem dif_bit {f m : Nat} (h : S f m) (i : Nat) : (m ^^^ f).testBit i = (m.testBit i && !f.testBit i) := by
  rw [Nat.testBit_xor]
  have := S_iff.mp h i
  cases e : f.testBit i with
  | false => cases m.testBit i <;> rfl
  | true => rw [this e]; rfl
theorem S_dif {f g m : Nat} (h : S f m) : S g (m ^^^ f) ↔ S g m ∧ ∀ i, g.testBit i = true → f.testBit i = false := by
  rw [S_iff, S_iff]
  constructor
  · intro q
    refine ⟨fun i hi => ?_, fun i hi => ?_⟩
    · have := q i hi
      rw [dif_bit h] at this
      exact (Bool.and_eq_true _ _ ▸ this).1
    · have := q i hi
      rw [dif_bit h] at this
      have q2 := (Bool.and_eq_true _ _ ▸ this).2
      simpa using q2
  · rintro ⟨q1, q2⟩ i hi
    rw [dif_bit h, q1 i hi, q2 i hi]; rfl
theorem dif_comm {f g m : Nat} : (m ^^^ f) ^^^ g = (m ^^^ g) ^^^ f := by rw [Nat.xor_assoc, Nat.xor_comm f g, Nat.xor_assoc]
theorem S_self_dif {f m : Nat} (h : S f m) (h0 : f ≠ 0) : ¬ S f (m ^^^ f) := fun q => by
  obtain ⟨i, hi⟩ := Nat.exists_testBit_of_ne_zero h0
  have := ((S_dif h).mp q).2 i hi
  rw [hi] at this; cases this
theorem S_zero {f : Nat} : S f 0 ↔ f = 0 := by unfold S; rw [Nat.and_zero]; exact eq_comm
theorem dif_lt {f m n : Nat} (h : S f m) (hm : m < 2 ^ n) : m ^^^ f < 2 ^ n := by
  refine Nat.lt_pow_two_of_testBit _ fun i hi => ?_
  rw [dif_bit h, Nat.testBit_lt_two_pow (Nat.lt_of_lt_of_le hm (Nat.pow_le_pow_right (by decide) hi))]; rfl
theorem S_lt {f m n : Nat} (h : S f m) (hm : m < 2 ^ n) : f < 2 ^ n := by
  rw [← h]; exact Nat.and_lt_two_pow _ hm
/-- how many are in -/
def pc (n m : Nat) : Nat := ((List.range n).filter fun i => m.testBit i).length
theorem pc_le (n m : Nat) : pc n m ≤ n := by
  unfold pc
  exact Nat.le_trans (List.length_filter_le _ _) (Nat.le_of_eq List.length_range)
theorem pc_split {f m : Nat} (h : S f m) (n : Nat) : pc n (m ^^^ f) + pc n f = pc n m := by
  unfold pc
  induction n with
  | zero => rfl
  | succ n ih =>
    rw [List.range_succ, List.filter_append, List.filter_append, List.filter_append, List.length_append, List.length_append, List.length_append]
    have e : ([n].filter fun i => (m ^^^ f).testBit i).length + ([n].filter fun i => f.testBit i).length = ([n].filter fun i => m.testBit i).length := by
      have q := dif_bit h n
      have q2 := S_iff.mp h n
      simp only [List.filter_cons, List.filter_nil, q]
      cases e1 : m.testBit n <;> cases e2 : f.testBit n <;> simp_all
    omega
theorem pc_pos {n m : Nat} (h : m ≠ 0) (hm : m < 2 ^ n) : 0 < pc n m := by
  obtain ⟨i, hi⟩ := Nat.exists_testBit_of_ne_zero h
  refine List.length_pos_of_mem (a := i) (List.mem_filter.mpr ⟨List.mem_range.mpr ?_, hi⟩)
  refine Nat.lt_of_not_le fun q => ?_
  rw [Nat.testBit_lt_two_pow (Nat.lt_of_lt_of_le hm (Nat.pow_le_pow_right (by decide) q))] at hi; cases hi
theorem pc_zero (n : Nat) : pc n 0 = 0 := by
  unfold pc
  rw [List.length_eq_zero_iff, List.filter_eq_nil_iff]
  intro i _; simp
theorem pc_dif {f m n : Nat} (h : S f m) (h0 : f ≠ 0) (hm : m < 2 ^ n) : pc n (m ^^^ f) < pc n m := by
  have := pc_split h n
  have := pc_pos h0 (S_lt h hm)
  omega
/-! ### all partings of some corners into faces of a row -/
abbrev Item := Text × Nat
def ap : List Item → Nat → List (List Item)
  | [], m => if m = 0 then [[]] else []
  | f :: Fs, m => ap Fs m ++ (if S f.2 m then (ap Fs (m ^^^ f.2)).map (f :: ·) else [])
def pick (Fs : List Item) (m x : Nat) : List Item := Fs.filter fun f => f.2.testBit x && decide (S f.2 m)
theorem ap_zero : ∀ {Fs : List Item}, (∀ f ∈ Fs, f.2 ≠ 0) → ap Fs 0 = [[]]
  | [], _ => rfl
  | f :: Fs, h => by
    show ap Fs 0 ++ (if S f.2 0 then _ else []) = _
    rw [if_neg (fun q => h f List.mem_cons_self (S_zero.mp q)), ap_zero fun g hg => h g (List.mem_cons_of_mem _ hg)]; rfl
theorem filter_flat {α β : Type} (p : α → Bool) (q : α → Prop) [DecidablePred q] (g : α → List β) : ∀ l : List α, ((l.filter p).flatMap fun x => if q x then g x else []) = (l.filter fun x => p x && decide (q x)).flatMap g
  | [] => rfl
  | x :: l => by
    rw [List.filter_cons, List.filter_cons]
    by_cases h1 : p x = true <;> by_cases h2 : q x <;> simp [h1, h2, filter_flat p q g l]
theorem flat_congr {α β : Type} {f g : α → List β} : ∀ {l : List α}, (∀ x ∈ l, f x = g x) → l.flatMap f = l.flatMap g
  | [], _ => rfl
  | x :: l, h => by
    rw [List.flatMap_cons, List.flatMap_cons, h x List.mem_cons_self, flat_congr fun y hy => h y (List.mem_cons_of_mem _ hy)]
/-- by the face of one corner -/
theorem piv {β : Type} : ∀ {Fs : List Item} {m x : Nat} (nf : List Item → β), (∀ r r', r.Perm r' → nf r = nf r') → m.testBit x = true →
    ((pick Fs m x).flatMap fun f => (ap Fs (m ^^^ f.2)).map fun r => nf (f :: r)).Perm ((ap Fs m).map nf)
  | [], m, x, nf, hn, hx => by
    show ([] : List β).Perm _
    have : ap [] m = [] := by
      show (if m = 0 then _ else _) = _
      rw [if_neg]
      rintro rfl
      simp at hx
    rw [this]; exact .refl _
  | f0 :: Fs, m, x, nf, hn, hx => by
    have ih := piv (Fs := Fs) (m := m) nf hn hx
    have mem : ∀ f ∈ pick Fs m x, f.2.testBit x = true ∧ S f.2 m := fun f hf => by
      have := (List.mem_filter.mp hf).2
      simpa using this
    have ex : ∀ f : Item, ap (f0 :: Fs) (m ^^^ f.2) = ap Fs (m ^^^ f.2) ++ (if S f0.2 (m ^^^ f.2) then (ap Fs ((m ^^^ f.2) ^^^ f0.2)).map (f0 :: ·) else []) := fun f => rfl
    have em : ap (f0 :: Fs) m = ap Fs m ++ (if S f0.2 m then (ap Fs (m ^^^ f0.2)).map (f0 :: ·) else []) := rfl
    by_cases hm : S f0.2 m
    · by_cases h0 : f0.2.testBit x = true
      · have e : pick (f0 :: Fs) m x = f0 :: pick Fs m x := by
          unfold pick
          rw [List.filter_cons, if_pos (by simp [h0, hm])]
        have no : ∀ f : Item, f.2.testBit x = true → S f.2 m → ¬ S f0.2 (m ^^^ f.2) := fun f h1 h2 q => by
          have := ((S_dif h2).mp q).2 x h0
          rw [h1] at this; cases this
        rw [e, List.flatMap_cons, ex, if_neg (no f0 h0 hm), List.append_nil]
        have e2 : ((pick Fs m x).flatMap fun f => (ap (f0 :: Fs) (m ^^^ f.2)).map fun r => nf (f :: r)) = (pick Fs m x).flatMap fun f => (ap Fs (m ^^^ f.2)).map fun r => nf (f :: r) :=
          flat_congr fun f hf => by rw [ex, if_neg (no f (mem f hf).1 (mem f hf).2), List.append_nil]
        rw [e2, em, if_pos hm, List.map_append, List.map_map]
        exact List.perm_append_comm.trans (ih.append_right _)
      · have e : pick (f0 :: Fs) m x = pick Fs m x := by
          unfold pick
          rw [List.filter_cons, if_neg (by simp [h0])]
        have ih2 := piv (Fs := Fs) (m := m ^^^ f0.2) (fun r => nf (f0 :: r)) (fun r r' p => hn _ _ (p.cons f0)) (x := x) (by rw [dif_bit hm, hx]; simp [h0])
        rw [e, em, if_pos hm, List.map_append, List.map_map]
        have e2 : ((pick Fs m x).flatMap fun f => (ap (f0 :: Fs) (m ^^^ f.2)).map fun r => nf (f :: r)) = (pick Fs m x).flatMap fun f => ((ap Fs (m ^^^ f.2)).map fun r => nf (f :: r)) ++ (if S f0.2 (m ^^^ f.2) then (ap Fs ((m ^^^ f0.2) ^^^ f.2)).map (fun r => nf (f0 :: f :: r)) else []) :=
          flat_congr fun f hf => by
            rw [ex, List.map_append]
            congr 1
            by_cases q : S f0.2 (m ^^^ f.2)
            · rw [if_pos q, if_pos q, List.map_map, dif_comm]
              exact List.map_congr_left fun r _ => hn _ _ (List.Perm.swap ..)
            · rw [if_neg q, if_neg q]; rfl
        rw [e2]
        refine (flatMap_two _ _ _).symm.trans (ih.append ?_)
        have e3 : ((pick Fs m x).flatMap fun f => if S f0.2 (m ^^^ f.2) then (ap Fs ((m ^^^ f0.2) ^^^ f.2)).map (fun r => nf (f0 :: f :: r)) else []) = (pick Fs (m ^^^ f0.2) x).flatMap fun f => (ap Fs ((m ^^^ f0.2) ^^^ f.2)).map (fun r => nf (f0 :: f :: r)) := by
          unfold pick
          rw [filter_flat]
          congr 1
          refine List.filter_congr fun f _ => ?_
          rw [Bool.eq_iff_iff]
          simp only [Bool.and_eq_true, decide_eq_true_eq]
          constructor
          · rintro ⟨⟨q1, q2⟩, q3⟩
            refine ⟨q1, (S_dif hm).mpr ⟨q2, fun i hi => ?_⟩⟩
            cases q : f0.2.testBit i with
            | false => rfl
            | true => have := ((S_dif q2).mp q3).2 i q; rw [hi] at this; cases this
          · rintro ⟨q1, q2⟩
            obtain ⟨q3, q4⟩ := (S_dif hm).mp q2
            refine ⟨⟨q1, q3⟩, (S_dif q3).mpr ⟨hm, fun i hi => ?_⟩⟩
            cases q : f.2.testBit i with
            | false => rfl
            | true => have := q4 i q; rw [hi] at this; cases this
        rw [e3]; exact ih2
    · have e : pick (f0 :: Fs) m x = pick Fs m x := by
        unfold pick
        rw [List.filter_cons, if_neg (by simp [hm])]
      have e2 : ((pick Fs m x).flatMap fun f => (ap (f0 :: Fs) (m ^^^ f.2)).map fun r => nf (f :: r)) = (pick Fs m x).flatMap fun f => (ap Fs (m ^^^ f.2)).map fun r => nf (f :: r) :=
        flat_congr fun f hf => by rw [ex, if_neg (fun q => hm ((S_dif (mem f hf).2).mp q).1), List.append_nil]
      rw [e, e2, em, if_neg hm, List.append_nil]
      exact ih
/-! ### counted -/
def cnt (Fs : List Item) (m k : Nat) : Nat := ((ap Fs m).map List.length).count k
theorem cnt_zero {Fs : List Item} (h : ∀ f ∈ Fs, f.2 ≠ 0) (k : Nat) : cnt Fs 0 k = if k = 0 then 1 else 0 := by
  unfold cnt
  rw [ap_zero h]
  show [0].count k = _
  by_cases e : k = 0
  · subst e; rfl
  · rw [if_neg e, List.count_cons, List.count_nil]; simp [Ne.symm e]
theorem count_succ (l : List Nat) (k : Nat) : (l.map (· + 1)).count (k + 1) = l.count k := by
  induction l with
  | nil => rfl
  | cons a l ih => rw [List.map_cons, List.count_cons, List.count_cons, ih]; simp
theorem count_succ0 (l : List Nat) : (l.map (· + 1)).count 0 = 0 := by
  induction l with
  | nil => rfl
  | cons a l ih => rw [List.map_cons, List.count_cons, ih]; simp
def up (Fs : List Item) (m k : Nat) (f : Item) : Nat := match k with | 0 => 0 | k + 1 => cnt Fs (m ^^^ f.2) k
theorem cnt_piv {Fs : List Item} {m x : Nat} (hx : m.testBit x = true) (k : Nat) : cnt Fs m k = ((pick Fs m x).map (up Fs m k)).sum := by
  unfold cnt
  rw [← (piv (Fs := Fs) List.length (fun r r' p => p.length_eq) hx).count_eq, List.count_flatMap]
  congr 1
  refine List.map_congr_left fun f _ => ?_
  have e : ((ap Fs (m ^^^ f.2)).map fun r => (f :: r).length) = ((ap Fs (m ^^^ f.2)).map List.length).map (· + 1) := by rw [List.map_map]; rfl
  show List.count k ((ap Fs (m ^^^ f.2)).map fun r => (f :: r).length) = _
  rw [e]
  cases k with
  | zero => exact count_succ0 _
  | succ k => exact count_succ _ _
/-- rows of counts -/
structure Cn (Fs : List Item) (n m : Nat) (L : List Int) : Prop where
  len : L.length ≤ pc n m + 1
  at_ : ∀ k, L.getD k 0 = (cnt Fs m k : Int)
/-! ### the least bit -/
theorem bitAnd_nat (a b : Nat) : Builtin.bitAnd (a : Int) (b : Int) = ((a &&& b : Nat) : Int) := by
  rw [PyProof.Rows.bitAnd_pp (Int.natCast_nonneg _) (Int.natCast_nonneg _)]; rfl
theorem xor_add (a b : Nat) : (a ^^^ b) + 2 * (a &&& b) = a + b := by
  induction a using Nat.strongRecOn generalizing b with
  | _ a ih =>
    by_cases h : a = 0
    · subst h; simp
    · have h1 := ih (a / 2) (by omega) (b / 2)
      have e1 : (a ^^^ b) / 2 = (a / 2) ^^^ (b / 2) := by
        refine Nat.eq_of_testBit_eq fun i => ?_
        rw [← Nat.testBit_add_one, Nat.testBit_xor, Nat.testBit_xor, Nat.testBit_add_one, Nat.testBit_add_one]
      have e2 : (a &&& b) / 2 = (a / 2) &&& (b / 2) := by
        refine Nat.eq_of_testBit_eq fun i => ?_
        rw [← Nat.testBit_add_one, Nat.testBit_and, Nat.testBit_and, Nat.testBit_add_one, Nat.testBit_add_one]
      have b1 : (a ^^^ b) % 2 = (a % 2 + b % 2) % 2 := by
        have := Nat.testBit_xor a b 0
        rw [Nat.testBit_zero, Nat.testBit_zero, Nat.testBit_zero] at this
        have ha := Nat.mod_two_eq_zero_or_one a
        have hb := Nat.mod_two_eq_zero_or_one b
        have hc := Nat.mod_two_eq_zero_or_one (a ^^^ b)
        rcases ha with ha | ha <;> rcases hb with hb | hb <;> rcases hc with hc | hc <;> simp [ha, hb, hc] at this ⊢
      have b2 : (a &&& b) % 2 = (a % 2) * (b % 2) := by
        have := Nat.testBit_and a b 0
        rw [Nat.testBit_zero, Nat.testBit_zero, Nat.testBit_zero] at this
        have ha := Nat.mod_two_eq_zero_or_one a
        have hb := Nat.mod_two_eq_zero_or_one b
        have hc := Nat.mod_two_eq_zero_or_one (a &&& b)
        rcases ha with ha | ha <;> rcases hb with hb | hb <;> rcases hc with hc | hc <;> simp [ha, hb, hc] at this ⊢
      rw [← e1, ← e2] at h1
      have ha := Nat.mod_two_eq_zero_or_one a
      have hb := Nat.mod_two_eq_zero_or_one b
      rcases ha with ha | ha <;> rcases hb with hb | hb <;> rw [ha, hb] at b1 b2 <;> omega
theorem bitXor_nat (a b : Nat) : Builtin.bitXor (a : Int) (b : Int) = ((a ^^^ b : Nat) : Int) := by
  rw [PyProof.Rows.bitXor_and, bitAnd_nat]
  have := xor_add a b
  omega
theorem S_bit {f m : Nat} : eqB (Builtin.bitAnd (f : Int) (m : Int)) (f : Int) = decide (S f m) := by
  rw [bitAnd_nat, Bool.eq_iff_iff, eqB_iff, decide_eq_true_iff]
  unfold S
  exact Int.ofNat_inj
theorem and_pred : ∀ {m : Nat}, m ≠ 0 → ∃ x, m - (m &&& (m - 1)) = 2 ^ x ∧ m.testBit x = true ∧ ∀ y, y < x → m.testBit y = false := by
  intro m
  induction m using Nat.strongRecOn with
  | _ m ih =>
    intro h
    have e2 : ∀ a b : Nat, (a &&& b) / 2 = (a / 2) &&& (b / 2) := fun a b => by
      refine Nat.eq_of_testBit_eq fun i => ?_
      rw [← Nat.testBit_add_one, Nat.testBit_and, Nat.testBit_and, Nat.testBit_add_one, Nat.testBit_add_one]
    have b2 : ∀ a b : Nat, (a &&& b) % 2 = (a % 2) * (b % 2) := fun a b => by
      have := Nat.testBit_and a b 0
      rw [Nat.testBit_zero, Nat.testBit_zero, Nat.testBit_zero] at this
      have ha := Nat.mod_two_eq_zero_or_one a
      have hb := Nat.mod_two_eq_zero_or_one b
      have hc := Nat.mod_two_eq_zero_or_one (a &&& b)
      rcases ha with ha | ha <;> rcases hb with hb | hb <;> rcases hc with hc | hc <;> simp [ha, hb, hc] at this ⊢
    by_cases ho : m % 2 = 1
    · refine ⟨0, ?_, by rw [Nat.testBit_zero, ho]; rfl, fun y hy => absurd hy (Nat.not_lt_zero _)⟩
      have h1 := e2 m (m - 1)
      have h2 := b2 m (m - 1)
      have : (m - 1) / 2 = m / 2 := by omega
      rw [this, Nat.and_self] at h1
      have : (m - 1) % 2 = 0 := by omega
      rw [this, Nat.mul_zero] at h2
      show _ = 1
      omega
    · obtain ⟨x, q1, q2, q3⟩ := ih (m / 2) (by omega) (by omega)
      refine ⟨x + 1, ?_, by rw [Nat.testBit_add_one]; exact q2, fun y hy => ?_⟩
      · have h1 := e2 m (m - 1)
        have h2 := b2 m (m - 1)
        have : (m - 1) / 2 = m / 2 - 1 := by omega
        rw [this] at h1
        have : m % 2 = 0 := by omega
        rw [this, Nat.zero_mul] at h2
        have le := @Nat.and_le_left (m / 2) (m / 2 - 1)
        rw [Nat.pow_succ]
        omega
      · cases y with
        | zero => rw [Nat.testBit_zero]; simp; omega
        | succ y => rw [Nat.testBit_add_one]; exact q3 y (by omega)
/-- the least bit of a number, as the program reckons it -/
def lowI (m : Int) : Int := Builtin.bitAnd m (0 - m)
theorem low_at {m : Nat} (h : m ≠ 0) : ∃ x, lowI m = ((2 ^ x : Nat) : Int) ∧ m.testBit x = true ∧ ∀ y, y < x → m.testBit y = false := by
  obtain ⟨x, q1, q2, q3⟩ := and_pred h
  refine ⟨x, ?_, q2, q3⟩
  unfold lowI
  rw [PyProof.Rows.bitAnd_comm, PyProof.Rows.bitAnd_np (by omega) (by omega)]
  have e : (Builtin.bitNot (0 - (m : Int))).toNat = m - 1 := by unfold Builtin.bitNot; omega
  rw [e, ← q1]
  have le := @Nat.and_le_left m (m - 1)
  have e3 : ((m : Int).toNat &&& (m - 1)) = (m &&& (m - 1)) := by rw [Int.toNat_natCast]
  rw [e3]; omega
theorem Nat.pow_right_injective' {z x : Nat} (h : 2 ^ z = 2 ^ x) : z = x := by
  rcases Nat.lt_trichotomy z x with q | q | q
  · exact absurd h (Nat.ne_of_lt (Nat.pow_lt_pow_right (by decide) q))
  · exact q
  · exact absurd h (Nat.ne_of_gt (Nat.pow_lt_pow_right (by decide) q))
theorem low_eq {f m x : Nat} (hf : f ≠ 0) (hS : S f m) (hm : lowI m = ((2 ^ x : Nat) : Int)) (hx : m.testBit x = true) (h0 : ∀ y, y < x → m.testBit y = false) : lowI f = lowI m ↔ f.testBit x = true := by
  obtain ⟨z, e1, e2, e3⟩ := low_at hf
  rw [e1, hm]
  have hz := S_iff.mp hS z e2
  have hle : x ≤ z := Nat.le_of_not_lt fun q => by rw [h0 z q] at hz; cases hz
  constructor
  · intro e
    have : z = x := Nat.pow_right_injective' (Int.ofNat_inj.mp e)
    rw [← this]; exact e2
  · intro q
    have : z = x := by
      rcases Nat.lt_or_eq_of_le hle with l | l
      · rw [e3 x l] at q; cases q
      · exact l.symm
    rw [this]
end Pc

set_option Elab.async false
set_option linter.all false
set_option maxRecDepth 100000
set_option maxHeartbeats 4000000
/-! all faces of so many bits, as texts, as masks -/
namespace Pf
open Sm PySem Fc Tb Od Pt Pc
/-! ### sums of bits -/
def bs (l : List Nat) : Nat := (l.map fun i => 2 ^ i).sum
theorem bs_bit : ∀ {l : List Nat}, l.Nodup → ∀ i, (bs l).testBit i = decide (i ∈ l)
  | [], _, i => by simp [bs]
  | a :: l, h, i => by
    obtain ⟨h1, h2⟩ := List.nodup_cons.mp h
    have ih := bs_bit h2
    have e : bs (a :: l) = 2 ^ a + bs l := rfl
    have z : 2 ^ a &&& bs l = 0 := by
      refine Nat.eq_of_testBit_eq fun j => ?_
      rw [Nat.testBit_and, Nat.testBit_two_pow, ih]
      by_cases q : a = j
      · subst q; simp [h1]
      · simp [q]
    have := xor_add (2 ^ a) (bs l)
    rw [z, Nat.mul_zero, Nat.add_zero] at this
    rw [e, ← this, Nat.testBit_xor, Nat.testBit_two_pow, ih]
    by_cases q : a = i
    · subst q; simp [h1]
    · have q' : ¬ i = a := fun z => q z.symm
      simp [q, q']
theorem bs_range (m : Nat) : ∀ n, m < 2 ^ n → bs ((List.range n).filter fun i => m.testBit i) = m := fun n hm => by
  refine Nat.eq_of_testBit_eq fun i => ?_
  rw [bs_bit (List.nodup_range.filter _), Bool.eq_iff_iff, decide_eq_true_iff, List.mem_filter, List.mem_range]
  constructor
  · exact fun q => q.2
  · intro q
    refine ⟨Nat.lt_of_not_le fun l => ?_, q⟩
    rw [Nat.testBit_lt_two_pow (Nat.lt_of_lt_of_le hm (Nat.pow_le_pow_right (by decide) l))] at q; cases q
theorem bs_lt {l : List Nat} {n : Nat} (h : l.Nodup) (hl : ∀ i ∈ l, i < n) : bs l < 2 ^ n := by
  refine Nat.lt_pow_two_of_testBit _ fun i hi => ?_
  rw [bs_bit h, decide_eq_false]
  intro q
  have := hl i q
  omega
/-! ### a face's corners as numbers -/
def stepN (ns : List Nat) (s : Nat) : List Nat := (ns.map fun n => 2 * n + (if s = 49 then 1 else 0)) ++ (if s = 42 then ns.map (fun n => 2 * n + 1) else [])
def nums (f : Text) : List Nat := f.foldl stepN [0]
def toZ (l : List Nat) : List Int := l.map fun i : Nat => (i : Int)
theorem stepN_Z (ns : List Nat) (s : Nat) : toZ (stepN ns s) = lstep (toZ ns) s := by
  unfold stepN lstep toZ
  rw [List.map_append, List.map_map, List.map_map]
  congr 1
  · refine List.map_congr_left fun n _ => ?_
    show ((2 * n + (if s = 49 then 1 else 0) : Nat) : Int) = 2 * (n : Int) + if s = 49 then 1 else 0
    split <;> omega
  · split
    · rw [List.map_map, List.map_map]
      refine List.map_congr_left fun n _ => ?_
      show ((2 * n + 1 : Nat) : Int) = 2 * (n : Int) + 1
      omega
    · rfl
theorem foldN_Z : ∀ (f : Text) (ns : List Nat), toZ (f.foldl stepN ns) = f.foldl lstep (toZ ns)
  | [], _ => rfl
  | s :: f, ns => by rw [List.foldl_cons, List.foldl_cons, foldN_Z f, stepN_Z]
theorem nums_Z (f : Text) : toZ (nums f) = lnum f := foldN_Z f [0]
theorem nums_snoc (f : Text) (s : Nat) : nums (f ++ [s]) = stepN (nums f) s := by unfold nums; rw [List.foldl_append]; rfl
theorem toZ_nodup {l : List Nat} : (toZ l).Nodup → l.Nodup := fun h => (List.pairwise_map.mp h).imp fun q e => q (by rw [e])
theorem nums_nodup {f : Text} (h : isF f) : (nums f).Nodup := by
  refine toZ_nodup ?_
  rw [nums_Z, (lnum_crn h).nodup_iff]
  refine (sub_nums (b := f.length) ?_).imp fun q => Int.ne_of_lt q
  rw [crn_filter]; exact List.filter_sublist
theorem nums_mem {f : Text} (h : isF f) {i : Nat} : i ∈ nums f ↔ i < 2 ^ f.length ∧ cN f.length (i : Int) ∈ crn f := by
  have e : i ∈ nums f ↔ (i : Int) ∈ lnum f := by
    rw [← nums_Z]
    unfold toZ
    rw [List.mem_map]
    constructor
    · exact fun q => ⟨i, q, rfl⟩
    · rintro ⟨j, hj, ej⟩
      have : j = i := by omega
      rw [← this]; exact hj
  rw [e, (lnum_crn h).mem_iff, List.mem_map]
  constructor
  · rintro ⟨c, hc, ec⟩
    obtain ⟨x, x0, x1, rfl⟩ := allC_mem (crn_allC hc)
    rw [nv_of x0 x1] at ec
    subst ec
    rw [← two_pow] at x1
    exact ⟨by omega, hc⟩
  · rintro ⟨q1, q2⟩
    refine ⟨_, q2, nv_of (by omega) ?_⟩
    rw [← two_pow]; omega
theorem nums_len {f : Text} (h : isF f) : (nums f).length = 2 ^ f.count 42 := by
  have e : (toZ (nums f)).length = (nums f).length := List.length_map ..
  rw [← e, nums_Z, (lnum_crn h).length_eq, List.length_map, crn_count h]
def fmask (f : Text) : Nat := bs (nums f)
theorem fmask_bit {f : Text} (h : isF f) (i : Nat) : (fmask f).testBit i = decide (i < 2 ^ f.length ∧ cN f.length (i : Int) ∈ crn f) := by
  unfold fmask
  rw [bs_bit (nums_nodup h), Bool.eq_iff_iff, decide_eq_true_iff, decide_eq_true_iff, nums_mem h]
theorem fmask_lt {f : Text} (h : isF f) : fmask f < 2 ^ 2 ^ f.length := bs_lt (nums_nodup h) fun i hi => (nums_mem h |>.mp hi).1
theorem fmask_ne {f : Text} (h : isF f) : fmask f ≠ 0 := fun e => by
  obtain ⟨c, hc⟩ := List.exists_mem_of_ne_nil _ (crn_ne h)
  obtain ⟨x, x0, x1, rfl⟩ := allC_mem (crn_allC hc)
  obtain ⟨i, rfl⟩ := Int.eq_ofNat_of_zero_le x0
  have hb := fmask_bit h i
  rw [← two_pow] at x1
  rw [decide_eq_true ⟨by omega, hc⟩, e] at hb
  simp at hb
/-! ### all faces, in order -/
def ext3 (fs : List Text) : List Text := fs.flatMap fun f => [f ++ [48], f ++ [49], f ++ [42]]
def facesT : Nat → List Text
  | 0 => [[]]
  | n + 1 => ext3 (facesT n)
theorem facesT_mem : ∀ {b : Nat} {f : Text}, f ∈ facesT b → f.length = b ∧ isF f
  | 0, f, h => by rw [List.mem_singleton.mp h]; exact ⟨rfl, fun c hc => by cases hc⟩
  | b + 1, f, h => by
    obtain ⟨g, hg, hf⟩ := List.mem_flatMap.mp h
    obtain ⟨g1, g2⟩ := facesT_mem hg
    simp only [List.mem_cons, List.not_mem_nil, or_false] at hf
    rcases hf with rfl | rfl | rfl <;>
    · refine ⟨by rw [List.length_append, g1]; rfl, isF_append g2 fun c hc => ?_⟩
      rw [List.mem_singleton.mp hc]; simp
theorem facesT_all : ∀ {b : Nat} {f : Text}, f.length = b → isF f → f ∈ facesT b
  | 0, f, h, _ => by rw [List.eq_nil_of_length_eq_zero h]; exact List.mem_singleton.mpr rfl
  | b + 1, f, h, hF => by
    have hne : f ≠ [] := fun e => by rw [e] at h; cases h
    have e := List.dropLast_concat_getLast hne
    refine List.mem_flatMap.mpr ⟨f.dropLast, facesT_all (by rw [List.length_dropLast, h]; rfl) (fun c hc => hF c ((List.dropLast_sublist f).subset hc)), ?_⟩
    have hl := hF _ (List.getLast_mem hne)
    simp only [List.mem_cons, List.not_mem_nil, or_false]
    rcases hl with q | q | q <;> rw [q] at e <;> simp [e]
theorem facesT_len : ∀ b : Nat, (facesT b).length = 3 ^ b
  | 0 => rfl
  | b + 1 => by
    have : ∀ l : List Text, (ext3 l).length = 3 * l.length := fun l => by
      induction l with
      | nil => rfl
      | cons f l ih =>
        show ((f ++ [48]) :: (f ++ [49]) :: (f ++ [42]) :: ext3 l).length = _
        simp only [List.length_cons, ih]; omega
    show (ext3 (facesT b)).length = _
    rw [this, facesT_len b, Nat.pow_succ]; omega
theorem app_lt : ∀ {f g : Text} (x y : Text), f.length = g.length → f < g → f ++ x < g ++ y
  | [], [], x, y, _, h => absurd h (List.lt_irrefl _)
  | a :: f, b :: g, x, y, hl, h => by
    rw [List.cons_append, List.cons_append, List.cons_lt_cons_iff]
    rcases List.cons_lt_cons_iff.mp h with q | ⟨q1, q2⟩
    · exact .inl q
    · exact .inr ⟨q1, app_lt x y (by simpa using hl) q2⟩
theorem app_lt_same : ∀ (f : Text) {x y : Text}, x < y → f ++ x < f ++ y
  | [], _, _, h => h
  | a :: f, _, _, h => by rw [List.cons_append, List.cons_append]; exact List.cons_lt_cons_iff.mpr (.inr ⟨rfl, app_lt_same f h⟩)
theorem od_app (f g : Text) : od (f ++ g) = od f ++ od g := List.map_append
theorem facesT_sorted : ∀ b : Nat, (facesT b).Pairwise flt
  | 0 => by show [([] : Text)].Pairwise _; simp
  | b + 1 => by
    have ih := facesT_sorted b
    show (ext3 (facesT b)).Pairwise flt
    unfold ext3
    rw [List.pairwise_flatMap]
    refine ⟨fun f _ => ?_, ?_⟩
    · have h1 : flt (f ++ [48]) (f ++ [49]) := by unfold flt; rw [od_app, od_app]; exact app_lt_same _ (by decide)
      have h2 : flt (f ++ [48]) (f ++ [42]) := by unfold flt; rw [od_app, od_app]; exact app_lt_same _ (by decide)
      have h3 : flt (f ++ [49]) (f ++ [42]) := by unfold flt; rw [od_app, od_app]; exact app_lt_same _ (by decide)
      simp [h1, h2, h3]
    · refine List.Pairwise.imp_of_mem ?_ ih
      intro f g hf hg h x hx y hy
      have hl : (od f).length = (od g).length := by rw [od_len, od_len, (facesT_mem hf).1, (facesT_mem hg).1]
      simp only [List.mem_cons, List.not_mem_nil, or_false] at hx hy
      have key : ∀ a c : Nat, flt (f ++ [a]) (g ++ [c]) := fun a c => by unfold flt; rw [od_app, od_app]; exact app_lt _ _ hl h
      rcases hx with rfl | rfl | rfl <;> rcases hy with rfl | rfl | rfl <;> exact key _ _
def allF (b : Nat) : List Item := (facesT b).map fun f => (f, fmask f)
def within (b m : Nat) : List Item := (allF b).filter fun f => decide (S f.2 m)
theorem allF_mem {b : Nat} {f : Item} (h : f ∈ allF b) : f.1.length = b ∧ isF f.1 ∧ f.2 = fmask f.1 := by
  obtain ⟨g, hg, rfl⟩ := List.mem_map.mp h
  exact ⟨(facesT_mem hg).1, (facesT_mem hg).2, rfl⟩
theorem allF_len (b : Nat) : (allF b).length = 3 ^ b := by unfold allF; rw [List.length_map, facesT_len]
/-- the corners of a number -/
def cor (b m : Nat) : List Text := ((List.range (2 ^ b)).filter fun i => m.testBit i).map fun i : Nat => cN b (i : Int)
theorem cor_sub (b m : Nat) : (cor b m).Sublist (allC b) := by
  rw [← allC_rg]
  unfold cor rg
  rw [List.map_map]
  have e : ((cN b) ∘ fun i : Nat => (0 : Int) + (i : Int)) = fun i : Nat => cN b (i : Int) := by funext i; show cN b (0 + (i : Int)) = _; rw [Int.zero_add]
  rw [e]
  exact List.filter_sublist.map _
theorem cor_len (b m : Nat) : (cor b m).length = pc (2 ^ b) m := by unfold cor pc; rw [List.length_map]
theorem pc_up {n k m : Nat} (hm : m < 2 ^ n) (h : n ≤ k) : pc k m = pc n m := by
  unfold pc
  rw [show k = n + (k - n) by omega, List.range_add, List.filter_append]
  have : ((List.range (k - n)).map (n + ·)).filter (fun i => m.testBit i) = [] := by
    rw [List.filter_eq_nil_iff]
    intro i hi
    obtain ⟨j, _, rfl⟩ := List.mem_map.mp hi
    rw [Nat.testBit_lt_two_pow (Nat.lt_of_lt_of_le hm (Nat.pow_le_pow_right (by decide) (Nat.le_add_right _ _)))]; decide
  rw [this, List.append_nil]
end Pf

set_option Elab.async false
set_option linter.all false
set_option maxRecDepth 100000
set_option maxHeartbeats 4000000
/-! dicts -/
namespace Sm
open PySem PySem.Spec PyProof.Rows L2
/-! ### tables -/
section
variable {κ β : Type} [DecidableEq κ]
def dget (d : List (κ × β)) (k : κ) : Option β := (d.find? fun p => decide (p.1 = k)).map (·.2)
def dput (d : List (κ × β)) (k : κ) (y : β) : List (κ × β) := if (d.any fun p => decide (p.1 = k)) = true then d.map (fun p => if p.1 = k then (p.1, y) else p) else d ++ [(k, y)]
def dmerge (d : List (κ × β)) : List (κ × β) := d.foldl (fun acc p => dput acc p.1 p.2) []
@[simp] theorem dget_nil (k : κ) : dget ([] : List (κ × β)) k = none := rfl
theorem dget_cons (p : κ × β) (d : List (κ × β)) (k : κ) : dget (p :: d) k = if p.1 = k then some p.2 else dget d k := by
  unfold dget
  rw [List.find?_cons]
  by_cases e : p.1 = k
  · rw [if_pos e, decide_eq_true e]; rfl
  · rw [if_neg e, decide_eq_false e]
theorem dget_any (k : κ) : ∀ d : List (κ × β), (d.any fun p => decide (p.1 = k)) = (dget d k).isSome
  | [] => rfl
  | p :: d => by
    rw [List.any_cons, dget_cons, dget_any k d]
    by_cases e : p.1 = k
    · rw [if_pos e, decide_eq_true e]; rfl
    · rw [if_neg e, decide_eq_false e]; rfl
theorem dget_map (k j : κ) (y : β) : ∀ d : List (κ × β), dget (d.map fun p => if p.1 = k then (p.1, y) else p) j = (dget d j).map fun x => if j = k then y else x
  | [] => rfl
  | p :: d => by
    rw [List.map_cons, dget_cons, dget_cons, dget_map k j y d]
    by_cases e : p.1 = k
    · rw [if_pos e]
      by_cases g : p.1 = j
      · rw [if_pos g, if_pos g]
        have : j = k := g.symm.trans e
        simp [this]
      · rw [if_neg g, if_neg g]
    · rw [if_neg e]
      by_cases g : p.1 = j
      · rw [if_pos g, if_pos g]
        have : ¬ j = k := fun q => e (g.trans q)
        simp [this]
      · rw [if_neg g, if_neg g]
theorem dget_snoc (k j : κ) (y : β) : ∀ d : List (κ × β), dget d k = none → dget (d ++ [(k, y)]) j = if j = k then some y else dget d j
  | [], _ => by
    show dget [(k, y)] j = _
    rw [dget_cons]
    by_cases e : j = k
    · rw [if_pos e, if_pos e.symm]
    · rw [if_neg e, if_neg fun q => e q.symm]
  | p :: d, h => by
    rw [dget_cons] at h
    by_cases e : p.1 = k
    · rw [if_pos e] at h; cases h
    · rw [if_neg e] at h
      rw [List.cons_append, dget_cons, dget_cons, dget_snoc k j y d h]
      by_cases g : p.1 = j
      · rw [if_pos g, if_pos g, if_neg fun q => e (g.trans q)]
      · rw [if_neg g, if_neg g]
theorem dget_put (d : List (κ × β)) (k j : κ) (y : β) : dget (dput d k y) j = if j = k then some y else dget d j := by
  unfold dput
  rw [dget_any]
  cases h : dget d k with
  | none =>
    rw [if_neg (by simp)]
    exact dget_snoc k j y d h
  | some z =>
    rw [if_pos (by rfl), dget_map]
    by_cases e : j = k
    · rw [if_pos e, e, h]; simp
    · rw [if_neg e]; simp [e]
theorem dput_len (d : List (κ × β)) (k : κ) (y : β) : (dput d k y).length ≤ d.length + 1 := by
  unfold dput
  split
  · rw [List.length_map]; omega
  · rw [List.length_append]; exact Nat.le_refl _
end
/-! ### keys -/
structure KeyR {κ : Type} (rk : RP κ) where
  key : κ → Key
  inj : ∀ x y, key x = key y → x = y
  val : ∀ {x v F}, rk.r x v F → v = kV (key x)
def kyI : KeyR pI := ⟨fun i => .inl i, fun x y e => Sum.inl.inj e, fun h => h⟩
def kyT : KeyR pT := ⟨fun x => .inr ⟨x.toArray⟩, fun x y e => by
  have e := Sum.inr.inj e
  have e : x.toArray = y.toArray := congrArg Str.cps e
  simpa using e, fun h => h.1⟩
section
variable {κ β : Type} [DecidableEq κ] {rk : RP κ} (ky : KeyR rk) (rv : RP β)
def AllD (F : Hp) : List (κ × β) → List (Key × V) → Prop
  | [], [] => True
  | p :: d, q :: kvs => q.1 = ky.key p.1 ∧ rv.r p.2 q.2 F ∧ AllD F d kvs
  | _, _ => False
variable {ky : KeyR rk} {rv : RP β}
theorem AllD.mono {F F' : Hp} (e : Same F F') : ∀ {d : List (κ × β)} {kvs : List (Key × V)}, AllD ky rv F d kvs → AllD ky rv F' d kvs
  | [], [], _ => trivial
  | _ :: _, _ :: _, ⟨a, b, c⟩ => ⟨a, rv.mono e b, AllD.mono e c⟩
theorem AllD.length {F : Hp} : ∀ {d : List (κ × β)} {kvs : List (Key × V)}, AllD ky rv F d kvs → d.length = kvs.length
  | [], [], _ => rfl
  | _ :: _, _ :: _, ⟨_, _, c⟩ => congrArg (· + 1) (AllD.length c)
theorem AllD.app {F : Hp} {k : κ} {y : β} {v : V} (hy : rv.r y v F) : ∀ {d : List (κ × β)} {kvs : List (Key × V)}, AllD ky rv F d kvs → AllD ky rv F (d ++ [(k, y)]) (kvs ++ [(ky.key k, v)])
  | [], [], _ => ⟨rfl, hy, trivial⟩
  | _ :: _, _ :: _, ⟨a, b, c⟩ => ⟨a, b, AllD.app hy c⟩
theorem AllD.get {F : Hp} (k : κ) : ∀ {d : List (κ × β)} {kvs : List (Key × V)}, AllD ky rv F d kvs → (dget d k = none ∧ valV kvs (ky.key k) = none) ∨ ∃ y v, dget d k = some y ∧ valV kvs (ky.key k) = some v ∧ rv.r y v F
  | [], [], _ => .inl ⟨rfl, rfl⟩
  | p :: d, q :: kvs, ⟨a, b, c⟩ => by
    rw [dget_cons]
    by_cases e : p.1 = k
    · rw [if_pos e, valV_pos (by rw [a, e])]
      exact .inr ⟨_, _, rfl, rfl, b⟩
    · rw [if_neg e, valV_neg (by rw [a]; exact fun g => e (ky.inj _ _ g))]
      exact AllD.get k c
theorem AllD.mapd {F : Hp} {k : κ} {y : β} {v : V} (hy : rv.r y v F) : ∀ {d : List (κ × β)} {kvs : List (Key × V)}, AllD ky rv F d kvs → AllD ky rv F (d.map fun p => if p.1 = k then (p.1, y) else p) (kvs.map fun q => if q.1 = ky.key k then (q.1, v) else q)
  | [], [], _ => trivial
  | p :: d, q :: kvs, ⟨a, b, c⟩ => by
    rw [List.map_cons, List.map_cons]
    by_cases e : p.1 = k
    · rw [if_pos e, if_pos (by rw [a, e])]
      exact ⟨a, hy, AllD.mapd hy c⟩
    · rw [if_neg e, if_neg (by rw [a]; exact fun g => e (ky.inj _ _ g))]
      exact ⟨a, b, AllD.mapd hy c⟩
theorem AllD.put {F : Hp} {k : κ} {y : β} {v : V} (hy : rv.r y v F) {d : List (κ × β)} {kvs : List (Key × V)} (h : AllD ky rv F d kvs) : AllD ky rv F (dput d k y) (putK kvs (ky.key k) v) := by
  unfold dput putK
  rw [dget_any, valV_any]
  rcases h.get k with ⟨e1, e2⟩ | ⟨z, u, e1, e2, _⟩
  · rw [e1, e2, if_neg (by simp), if_neg (by simp)]
    exact h.app hy
  · rw [e1, e2, if_pos (by rfl), if_pos (by rfl)]
    exact h.mapd hy
theorem AllD.merge {F : Hp} : ∀ {d : List (κ × β)} {kvs : List (Key × V)} {d0 : List (κ × β)} {kvs0 : List (Key × V)}, AllD ky rv F d kvs → AllD ky rv F d0 kvs0 → AllD ky rv F (d.foldl (fun acc p => dput acc p.1 p.2) d0) (mergeK kvs0 kvs)
  | [], [], _, _, _, h => h
  | p :: d, q :: kvs, d0, kvs0, ⟨a, b, c⟩, h => by
    have e : mergeK kvs0 (q :: kvs) = mergeK (putK kvs0 (ky.key p.1) q.2) kvs := by
      show mergeK (putK kvs0 q.1 q.2) kvs = _
      rw [a]
    rw [e, List.foldl_cons]
    exact AllD.merge c (h.put b)
/-- a dict that is read; one that is owned; one at a known address -/
def pD (ky : KeyR rk) (rv : RP β) : RP (List (κ × β)) := ⟨fun d v F => ∃ a kvs, v = .ref a ∧ F a = some (.dK kvs) ∧ AllD ky rv F d kvs, fun e ⟨a, kvs, h1, h2, h3⟩ => ⟨a, kvs, h1, e _ _ h2, h3.mono e⟩⟩
def od (ky : KeyR rk) (rv : RP β) (d : List (κ × β)) : VA := ⟨fun v F h => ∃ a kvs, v = .ref a ∧ h = [(a, .dK kvs)] ∧ AllD ky rv F d kvs, fun e ⟨a, kvs, h1, h2, h3⟩ => ⟨a, kvs, h1, h2, h3.mono e⟩⟩
def resD (ky : KeyR rk) (rv : RP β) (a : Addr) (d : List (κ × β)) : Res := ⟨fun F h => ∃ kvs, h = [(a, .dK kvs)] ∧ AllD ky rv F d kvs, fun e ⟨kvs, h1, h2⟩ => ⟨kvs, h1, h2.mono e⟩⟩
end
section
variable {P : Program} {w : World} {K : PySem.W.Frag} {mg : Str → Option Value} {base : Heap} {N : List Str} {sc : Scope} {fn : Str → Bool} {k : Nat}
variable {M : Fm P w K mg base N sc fn k}
variable {S : Type} {O : S → Res} {Γ : Asrt} {s : S} {κ α β γ ρ : Type} [DecidableEq κ] {rk : RP κ} {ky : KeyR rk} {rv : RP β} {ra : RP α} {rb : RP γ} {A : ρ → VA}
theorem Fm.hu1 (M : Fm P w K mg base N sc fn k) (i) : (M.X i).A.units + 1 < cLine := by have := (M.room i).units; omega
/-! ### displays -/
def rdP (M : Fm P w K mg base N sc fn k) : List (Option Expr) → List Expr → List (TE × TE)
  | some e :: ks, f :: vs => (rdE M e, rdE M f) :: rdP M ks vs
  | _, _ => []
theorem rdP_ok (i) {pos : Pos} : ∀ {ks : List (Option Expr)} {vs : List Expr}, ks.all (·.isSome) = true → ks.length = vs.length → PPs (M.X i) pos ks vs (rdP M ks vs)
  | [], [], _, _ => pps_nil
  | some e :: ks, f :: vs, h, l => pps_cons (rdE_ok i) (rdE_ok i) (rdP_ok i (by simpa using h) (by simpa using l))
def XPs (M : Fm P w K mg base N sc fn k) (O : S → Res) (Γ : Asrt) (s : S) (ks : List (Option Expr)) (vs : List Expr) (ky : KeyR rk) (rv : RP β) (W : (List (κ × β) → S → Prop) → Prop) : Prop :=
  ∀ (HI : Hp) (C : List (κ × β) → S → Prop) (Q : List (V × V) → Hp → Prop) (σ : L2.St) (F H : Hp), Stt O HI Γ s σ F H →
    (∀ d s' kvs F' H', C d s' → Same F F' → AllD ky rv F' d kvs → Stt O HI Γ s' σ F' H' → Q (kvs.map fun kv => (kV kv.1, kv.2)) H') → W C → tPairs (rdP M ks vs) σ H Q
theorem xp_nil : XPs M O Γ s [] [] ky rv (fun k => k [] s) := by
  intro HI C Q σ F H st hq hc
  exact hq [] s [] F H hc (Same.refl _) trivial st
theorem xp_cons {e f : Expr} {ks : List (Option Expr)} {vs : List Expr} {we : (κ → S → Prop) → Prop} {wf : S → (β → S → Prop) → Prop} {wr : S → (List (κ × β) → S → Prop) → Prop}
    (he : XE M O Γ s e (fz rk) we) (hf : ∀ s', XE M O Γ s' f (fz rv) (wf s')) (hr : ∀ s', XPs M O Γ s' ks vs ky rv (wr s')) :
    XPs M O Γ s (some e :: ks) (f :: vs) ky rv (fun k => we fun x s1 => wf s1 fun y s2 => wr s2 fun d s3 => k ((x, y) :: d) s3) := by
  intro HI C Q σ F H st hq hc
  refine he HI _ _ σ F H st (fun x s1 u F1 H1 c1 e1 sv1 => ?_) hc
  obtain ⟨rx, st1⟩ := sv1.fz
  refine hf s1 HI _ _ σ F1 H1 st1 (fun y s2 v F2 H2 c2 e2 sv2 => ?_) c1
  obtain ⟨ry, st2⟩ := sv2.fz
  refine hr s2 HI _ _ σ F2 H2 st2 (fun d s3 kvs F3 H3 c3 e3 al st3 => ?_) c2
  have := hq ((x, y) :: d) s3 ((ky.key x, v) :: kvs) F3 H3 c3 (e1.trans (e2.trans e3)) ⟨rfl, rv.mono e3 ry, al⟩ st3
  rw [List.map_cons] at this
  rw [ky.val rx]; exact this
theorem xe_disp {ks : List (Option Expr)} {vs : List Expr} {pos : Pos} {W : (List (κ × β) → S → Prop) → Prop} (h : XPs M O Γ s ks vs ky rv W) (hall : ks.all (·.isSome) = true := by rfl) (hl : ks.length = vs.length := by rfl) (h0 : ks ≠ [] := by intro q; cases q) (h15 : ks.length ≤ 15 := by decide) :
    XE M O Γ s (.Dict ks vs pos) (od ky rv) (fun k => W fun d s' => d.length ≤ 15 ∧ k (dmerge d) s') := by
  intro HI C Q σ F H st hq hc
  refine ⟨_, fun i => pe_disp (rdP_ok i hall hl) hall hl h0 h15, fun p hp => ?_⟩
  obtain ⟨h1, h2, sa, so, ok⟩ := st
  have okn : Ok F ((h1 ++ h2) ++ [(p, .dK [])]) HI (upd H p (.dK [])) := (ok.newO hp).perm (List.perm_append_comm (l₁ := [(p, HO.dK [])]))
  have stn : Stt O (Sm.hide HI [(p, .dK [])]) Γ s σ F (upd H p (.dK [])) := ⟨h1, h2, sa, so, okn.hide⟩
  refine h _ _ _ σ F _ stn (fun d s' kvs F' H' c e al st' => ?_) hc
  obtain ⟨g1, g2, sa', so', ok'⟩ := st'
  have oku := okn.unhide ok'
  have oku2 : Ok F' ((p, .dK []) :: (g1 ++ g2)) HI H' := oku.perm (List.perm_append_comm (l₂ := [(p, HO.dK [])]))
  refine ⟨(oku2.own _ List.mem_cons_self).1, kvs, rfl, by rw [← al.length]; exact c.1, ?_⟩
  exact hq _ s' _ F' _ c.2 e ⟨[(p, .dK (mergeK [] kvs))], g1, g2, ⟨p, _, rfl, rfl, AllD.merge al (d0 := []) (kvs0 := []) trivial⟩, sa', so', oku2.set⟩
/-- {} -/
theorem xe_dnew {pos : Pos} : XE M O Γ s (.Dict [] [] pos) (od ky rv) (fun k => k [] s) := by
  intro HI C Q σ F H st hq hc
  exact ⟨_, fun i => pe_dnewK, fun p hp => hq [] s _ F _ hc (Same.refl _) (st.newV hp ⟨p, [], rfl, rfl, trivial⟩)⟩
/-- an owned dict is frozen -/
theorem xe_frD {e : Expr} {W : (List (κ × β) → S → Prop) → Prop} (h : XE M O Γ s e (od ky rv) W) : XE M O Γ s e (fz (pD ky rv)) W := by
  intro HI C Q σ F H st hq hc
  refine h HI _ Q σ F H st (fun x s' v F' H' c e sv => ?_) hc
  obtain ⟨hv, h1, h2, ⟨a, vs, ev, eh, al⟩, b, cc, d⟩ := sv
  subst ev eh
  have dn := d.freeze
  have e2 : Same F' (upd F' a (.dK vs)) := same_upd (d.own _ List.mem_cons_self).2.1
  refine hq x s' _ _ H' c (e.trans e2) ⟨[], h1, h2, ⟨rfl, a, vs, rfl, upd_same, al.mono e2⟩, b.mono e2, (O s').mono e2 cc, dn⟩
/-! ### looked at -/
section
variable {d e f : Expr} {pos ap cp : Pos} {wd : (List (κ × β) → S → Prop) → Prop}
theorem dk_get {F H : Hp} {a : Addr} {kvs : List (Key × V)} {dd : List (κ × β)} {x : κ} {y : β} (h : H a = some (.dK kvs)) (al : AllD ky rv F dd kvs) (hy : dget dd x = some y) : ∃ v, DGet H a (kV (ky.key x)) (some v) ∧ rv.r y v F := by
  rcases al.get x with ⟨e1, _⟩ | ⟨z, u, e1, e2, r⟩
  · rw [e1] at hy; cases hy
  · rw [e1] at hy; cases hy
    exact ⟨u, by rw [← e2]; exact DGet.k h, r⟩
theorem dk_opt {F H : Hp} {a : Addr} {kvs : List (Key × V)} {dd : List (κ × β)} {x : κ} (h : H a = some (.dK kvs)) (al : AllD ky rv F dd kvs) : ∃ o, DGet H a (kV (ky.key x)) o ∧ o.isSome = (dget dd x).isSome ∧ (∀ y, dget dd x = some y → ∃ v, o = some v ∧ rv.r y v F) ∧ (dget dd x = none → o = none) := by
  refine ⟨_, DGet.k h, ?_, ?_, ?_⟩
  all_goals rcases al.get x with ⟨e1, e2⟩ | ⟨z, u, e1, e2, r⟩
  · rw [e1, e2]; rfl
  · rw [e1, e2]; rfl
  · intro y q; rw [e1] at q; cases q
  · intro y q; rw [e1] at q; cases q; exact ⟨u, e2, r⟩
  · intro _; exact e2
  · intro q; rw [e1] at q; cases q
theorem xe_dget {we : S → (κ → S → Prop) → Prop} (hd : XE M O Γ s d (fz (pD ky rv)) wd) (he : ∀ s', XE M O Γ s' e (fz rk) (we s')) (hs : NoSl e := by intro _ _; rfl) :
    XE M O Γ s (.Subscript d e pos) (fz rv) (fun k => wd fun dd s1 => we s1 fun x s2 => ∃ y, dget dd x = some y ∧ k y s2) := by
  intro HI C Q σ F H st hq hc
  refine ⟨_, fun i => pe_dget (M.hu1 i) (rdE_ok i) (rdE_ok i) hs, hd HI _ _ σ F H st (fun dd s1 u F1 H1 c1 e1 sv1 => ?_) hc⟩
  obtain ⟨⟨a, kvs, rfl, hF, al⟩, st1⟩ := sv1.fz
  refine he s1 HI _ _ σ F1 H1 st1 (fun x s2 v F2 H2 c2 e2 sv2 => ?_) c1
  obtain ⟨rx, st2⟩ := sv2.fz
  obtain ⟨y, hy, c⟩ := c2
  obtain ⟨v', g, r⟩ := dk_get (st2.ok _ _ (e2 _ _ hF)) (al.mono e2) hy
  exact ⟨a, v', rfl, by rw [ky.val rx]; exact g, hq y s2 v' F2 H2 c (e1.trans e2) (st2.val r)⟩
theorem xe_dgetd {we : S → (κ → S → Prop) → Prop} {wf : S → (β → S → Prop) → Prop} (hd : XE M O Γ s d (fz (pD ky rv)) wd) (he : ∀ s', XE M O Γ s' e (fz rk) (we s')) (hf : ∀ s', XE M O Γ s' f (fz rv) (wf s')) (m : ∀ i, M2 (M.X i) d "get" ap e f cp := by intro _; exact ⟨rfl, rfl, rfl, rfl⟩) :
    XE M O Γ s (.Call (.Attribute d "get" ap) [e, f] [] cp) (fz rv) (fun k => wd fun dd s1 => we s1 fun x s2 => wf s2 fun z s3 => k ((dget dd x).getD z) s3) := by
  intro HI C Q σ F H st hq hc
  refine ⟨_, fun i => pe_dget2 (M.hu1 i) (rdE_ok i) (rdE_ok i) (rdE_ok i) (m i), hd HI _ _ σ F H st (fun dd s1 u F1 H1 c1 e1 sv1 => ?_) hc⟩
  obtain ⟨⟨a, kvs, rfl, hF, al⟩, st1⟩ := sv1.fz
  refine ⟨a, rfl, .inl ⟨kvs, .inl (st1.ok _ _ hF)⟩, ?_⟩
  refine he s1 HI _ _ σ F1 H1 st1 (fun x s2 v F2 H2 c2 e2 sv2 => ?_) c1
  obtain ⟨rx, st2⟩ := sv2.fz
  refine hf s2 HI _ _ σ F2 H2 st2 (fun z s3 v3 F3 H3 c3 e3 sv3 => ?_) c2
  obtain ⟨rz, st3⟩ := sv3.fz
  obtain ⟨o, g, _, o2, o3⟩ := dk_opt (x := x) (st3.ok _ _ (e3 _ _ (e2 _ _ hF))) (al.mono (e2.trans e3))
  refine ⟨o, by rw [ky.val rx]; exact g, hq _ s3 _ F3 H3 c3 (e1.trans (e2.trans e3)) (st3.val ?_)⟩
  cases q : dget dd x with
  | none => rw [o3 q]; exact rz
  | some y =>
    obtain ⟨v', ev, r⟩ := o2 y q
    rw [ev]; exact r
end
end
end Sm

set_option Elab.async false
set_option linter.all false
set_option maxRecDepth 100000
set_option maxHeartbeats 4000000
/-! sorted of a tuple -/
namespace Sm
open PySem PySem.Spec PyProof.Rows L2
open PySem.W (AllAlike dataLe EachIs)
section
variable {prog : Program} {w : World} {A : Around} {E : Value → Shared → Prop} {s : Shared}
theorem sorted_dataT {β : Type} {vs : List Value} {bs : List β} {enc : β → PyData} {R : Value → β → Prop} {l : Addr} {Q : Value → Shared → Prop} (hl : s.heap.IsTuple l vs.toArray) (e : EachIs R vs bs) (er : EachIs (fun v b => ∃ as, Reads s.heap v (enc b) as) vs bs) (hal : AllAlike (bs.map enc)) (hk : PySem.W.Sortable (bs.map enc)) (hL : bs.length ≤ sizeLine)
    (hu : ∀ b, b ∈ bs → A.units + 2 + (enc b).depth < cLine)
    (h : ∀ (h' h2 : Heap) (c : Nat) (out : List Value), (∀ b o, s.heap.get? b = some o → h'.get? b = some o) → (∀ b o, h'.get? b = some o → h2.get? b = some o) → h2.get? h'.objs.size = some (seqObj "list" out.toArray c) → EachIs R out (bs.mergeSort (dataLe false enc)) → Q (.ref h'.objs.size) { s with heap := h2 }) :
    wpAny (model prog w) A (call (.builtin "sorted") [.ref l]) Q E s := by
  obtain ⟨o, ho, hc, n, hd⟩ := id hl
  have hL2 : vs.length ≤ sizeLine := by rw [e.length]; exact hL
  refine call_function_entry_kw (kw := []) kind_sorted plain_sorted entry_sorted (args_sorted1 _) ?_
  unfold Builtin.«sorted»
  refine wpAny_bind (m := checkCount "sorted" 1 1 _) (wpAny_pure ?_)
  refine wpAny_bind (wpAny_collect_seq l (.inr rfl) ho hc hd (fun h' keep => ?_) (by rw [List.size_toArray]; exact hL2))
  rw [List.toList_toArray]
  refine wpAny_bind (wpAny_newList ?_ hL2)
  have at0 : (h'.push (seqObj "list" vs.toArray 0)).get? h'.objs.size = some (seqObj "list" vs.toArray 0) := Heap.get?_push_size _ rfl
  have lt' : ∀ b o, h'.get? b = some o → b < h'.objs.size := fun b o q => Heap.lt_size q
  have old : ∀ b o, h'.get? b = some o → (h'.push (seqObj "list" vs.toArray 0)).get? b = some o := fun b o q => Heap.get?_push_of_some _ q
  have er' : EachIs (fun v b => ∃ as, Reads (PySem.W.sortingHeap (h'.push (seqObj "list" vs.toArray 0)) h'.objs.size vs) v (enc b) as) vs bs := er.mono fun _ _ ⟨as, r⟩ =>
    ⟨as, PyProof.Rows.Reads.keeps (fun b o q => PySem.W.sortingHeap_old (Nat.ne_of_lt (lt' b o (keep b o q))) (old b o (keep b o q))) r⟩
  refine wpAny_bind (wpAny_holding (wpAny_call_entry_kw (kw := []) slot_list_sort ⟨_, at0, rfl⟩ entry_list_sort ?body (args_list_sort _)))
  case body =>
    refine wpAny_mono (PySem.W.list_sort_vals (s := { s with heap := h'.push (seqObj "list" vs.toArray 0) }) (P := fun f s' => f = .done (.ret .none) ∧ Q (.ref h'.objs.size) s') at0
      (PySem.W.SortsAt.data (s := { s with heap := PySem.W.sortingHeap (h'.push (seqObj "list" vs.toArray 0)) h'.objs.size vs }) (PySem.W.each_map (R := fun v d => ∃ as, Reads (PySem.W.sortingHeap (h'.push (seqObj "list" vs.toArray 0)) h'.objs.size vs) v d as) enc er') hal hk (PySem.W.bound_map hu)) hL2 ⟨rfl, ?_⟩) (fun f s' hf => ?_) fun _ _ z => z
    · obtain ⟨c, hc2⟩ := sortedHeap_at (out := (PySem.W.sortVals (PySem.W.dataKind (PySem.W.sortingHeap (h'.push (seqObj "list" vs.toArray 0)) h'.objs.size vs) (bs.map enc)) false vs vs).toArray) at0
      refine h h' _ c _ keep (fun b o q => ?_) hc2 (PySem.W.sortVals_data false e er' hal)
      rw [sortedHeap_old (Nat.ne_of_lt (lt' b o q)) (Heap.lt_size (old b o q))]
      exact old b o q
    · obtain ⟨rfl, hq⟩ := hf
      exact ⟨_, rfl, wpAny_pure ⟨_, rfl, hq⟩⟩
end
/-- sorted(xs), xs a tuple -/
def rSrtT (K : PySem.W.Frag) : List V → Hp → VK → Prop := fun args H Q => ∃ (a : Addr) (bs : List (V × PyData)), args = [V.ref a] ∧ SqT K H a (bs.map (·.1)) ∧ DpAll K H (bs.map (·.1)) (bs.map (·.2)) ∧ AllAlike (bs.map (·.2)) ∧ PySem.W.Sortable (bs.map (·.2)) ∧ (∀ b ∈ bs, b.2.depth ≤ 60) ∧
  ∀ p, H p = none → Q (.ref p) (upd H p (.lst ((bs.mergeSort (dataLe false fun b => b.2)).map (·.1))))
theorem cr_srtT {X : Cx} (hu : X.A.units + 64 < cLine) : CallR X (.builtin "sorted") (rSrtT X.K) := by
  intro pins s σ H args us Q I r h
  obtain ⟨a, bs, rfl, hs, hd, hal, hk, hdep, q⟩ := h
  obtain ⟨its, rv, hl, hz⟩ := I.tuple hs
  rw [Vals.ref1 r]
  obtain ⟨as, hr⟩ := Dp.readsAll I _ _ its hd rv
  have hlen : (bs.map (·.1)).length = bs.length := List.length_map ..
  refine sorted_dataT (bs := bs) (enc := fun b => b.2) (R := fun u b => RelV b.1 u) hl (each_vals rv) (each_snd (each_of hr)) hal hk (by rw [← hlen]; exact hz) (fun b hb => by have := hdep b hb; omega) fun h' h2 c out keep keep2 hp hv => ?_
  have hl2 : ((bs.mergeSort (dataLe false fun b => b.2)).map (·.1)).length ≤ sizeLine := by rw [List.length_map, List.length_mergeSort, ← hlen]; exact hz
  have I2 := I.kept (t' := s.toks) keep
  exact ⟨.ref _, upd H h'.objs.size (.lst ((bs.mergeSort (dataLe false fun b => b.2)).map (·.1))), I2.laid (t' := s.toks) keep2 (Nat.le_refl _) ⟨hl2, out, c, vals_each hv, hp⟩, rfl, q _ (I2.hok.fresh (Nat.le_refl _))⟩
section
variable {P : Program} {w : World} {K : PySem.W.Frag} {mg : Str → Option Value} {base : Heap} {N : List Str} {sc : Scope} {fn : Str → Bool} {k : Nat}
variable {M : Fm P w K mg base N sc fn k}
variable {S : Type} {O : S → Res} {Γ : Asrt} {s : S} {α β γ ρ : Type} {ra : RP α} {rb : RP β} {rc : RP γ} {A : ρ → VA}
theorem xe_sortedU [DecidableEq α] {e : Expr} {p pos : Pos} {wa : (List α → S → Prop) → Prop} (D : Dat K ra) (sD : Srt D) (hm : mg "sorted" = none) (ha : XE M O Γ s e (fz (pU K ra)) wa) (hn : D.n ≤ 60 := by exact Nat.le_of_ble_eq_true rfl) (hg : GlN sc "sorted" := by rfl) (hs : NoStar e := by intro _ _; rfl) :
    XE M O Γ s (.Call (.Name "sorted" p) [e] [] pos) (ol ra) (fun k => wa fun x s1 => k (srt D x) s1) := by
  refine xe_cb1 (A := ol ra) (Wo := fun x k => k (srt D x)) b_sorted (fun i => by have h := cr_srtT (X := M.X i) (M.room i).units; rw [M.kf i] at h; exact h) ?_ hm hg ha (by decide) (by decide) hs
  intro S' O' HI Γ' s' σ F H x u C Q st rx hq hc
  obtain ⟨a, vs, rfl, hS, al⟩ := rx
  obtain ⟨bs, e1, e2, e3, T, t1, t2, t3⟩ := all2_dp D st.ok al
  refine ⟨a, bs, rfl, by rw [e1]; exact SqT.mono st.ok hS, by rw [e1, e2]; exact e3, fun d hd d' hd' => ?_, by rw [e2]; exact sD.so x, fun b hb => ?_, fun q hp => ?_⟩
  · rw [e2] at hd hd'
    obtain ⟨y, _, rfl⟩ := List.mem_map.mp hd
    obtain ⟨z, _, rfl⟩ := List.mem_map.mp hd'
    exact sD.al y z
  · have : b.2 ∈ bs.map (·.2) := List.mem_map.mpr ⟨b, hb, rfl⟩
    rw [e2] at this
    obtain ⟨y, _, ey⟩ := List.mem_map.mp this
    rw [← ey]; exact Nat.le_trans (D.dep y) hn
  · have m1 : (T.mergeSort (dataLe false fun t => D.d t.1)).map (·.1) = srt D x := by
      unfold srt
      rw [← t1]
      exact List.map_mergeSort (s := dataLe false D.d) fun _ _ _ _ => rfl
    have m2 : (bs.mergeSort (dataLe false fun b => b.2)).map (·.1) = (T.mergeSort (dataLe false fun t => D.d t.1)).map (·.2) := by
      rw [t2, ← List.map_mergeSort (r := dataLe false fun t : α × V => D.d t.1) (s := dataLe false fun b : V × PyData => b.2) (f := fun t : α × V => (t.2, D.d t.1)) (fun _ _ _ _ => rfl), List.map_map]
      rfl
    rw [m2]
    refine hq _ _ F _ hc (Same.refl _) (st.newV hp ⟨q, _, rfl, rfl, ?_⟩)
    rw [← m1]
    exact all2_of fun t ht => t3 t (List.mem_mergeSort.mp ht)
/-- what is sorted under a condition -/
structure SrtC [DecidableEq α] (D : Dat K ra) (cd : List α → Prop) : Prop where
  al : ∀ x y, PySem.W.alike (D.d x) (D.d y) = true
  so : ∀ xs : List α, cd xs → PySem.W.Sortable (xs.map D.d) ∨ xs.length ≤ 1
end
section
variable {prog : Program} {w : World} {A : Around} {E : Value → Shared → Prop} {s : Shared}
theorem list_sort_small {a : Addr} {vs : List Value} {n : Nat} {P : PySem.Fin → Shared → Prop} (ho : s.heap.get? a = some (seqObj "list" vs.toArray n)) (h1 : vs.length ≤ 1)
    (h : P (.done (.ret .none)) { s with heap := sortedHeap s.heap a vs vs.toArray }) : wpAny (model prog w) A (Builtin.«list.sort» ⟨[.ref a], []⟩) P E s := by
  rw [list_sort_plain]
  have ha : a < s.heap.objs.size := Heap.lt_size ho
  refine wpAny_bind (listItems_at ho rfl ?_)
  refine wpAny_bind (listUpdate_at ho rfl ?_)
  obtain ⟨e1, ho1⟩ : ∃ e1, (s.heap.update a (Obj.mapSeq fun _ => #[])).get? a = some (seqObj "list" #[] e1) := ⟨_, get?_update_seq ho (fun _ => #[])⟩
  refine wpAny_bind (seqEpoch_at ho1 rfl ?_)
  refine wpAny_bind (wpAny_newTuple ?_)
  refine wpAny_bind (wpAny_newList ?_)
  refine wpAny_holding ?_
  have ho6 : (((s.heap.update a (Obj.mapSeq fun _ => #[])).push (seqObj "tuple" vs.toArray 0)).push (seqObj "list" #[] 0)).get? a = some (seqObj "list" #[] e1) := by
    rw [Heap.get?_push_ne _ _ _ (by rw [size_push', Heap.size_update]; exact Nat.ne_of_lt (Nat.lt_succ_of_lt ha)), Heap.get?_push_ne _ _ _ (by rw [Heap.size_update]; exact Nat.ne_of_lt ha)]
    exact ho1
  show wpAny (model prog w) A _ P E { s with heap := ((s.heap.update a (Obj.mapSeq fun _ => #[])).push (seqObj "tuple" vs.toArray 0)).push (seqObj "list" #[] 0) }
  dsimp only
  have hsz : vs.toArray.size = vs.length := by simp
  have h2 : vs.toArray.size < 2 := by omega
  rw [if_pos h2, if_pos h2]
  refine wpAny_bind (wpAny_pure ?_)
  rw [StateT.run_pure]
  refine wpAny_bind (wpAny_pure ?_)
  dsimp only
  have e : (arrOf (SortSt.mk' general' (vs.toArray.zip vs.toArray) #[] 7 none)).map (·.2) = vs.toArray := by
    show (vs.toArray.zip vs.toArray).map (·.2) = vs.toArray
    refine Array.ext' ?_
    rw [Array.toList_map, Array.toList_zip, List.toList_toArray]
    cases vs with
    | nil => rfl
    | cons x r =>
      cases r with
      | nil => rfl
      | cons y r => simp at h1
  refine wpAny_bind (seqEpoch_at ho6 rfl ?_)
  rw [e]
  refine wpAny_bind (listUpdate_at ho6 rfl ?_ (hsz2 := by rw [hsz, sizeLine_eq]; omega))
  simp only [bne_self_eq_false, Bool.false_eq_true, if_false]
  exact wpAny_pure h
end
def rSrt2 (K : PySem.W.Frag) : List V → Hp → VK → Prop := fun args H Q => ∃ (a : Addr) (bs : List (V × PyData)), args = [V.ref a] ∧ SqL K H a (bs.map (·.1)) ∧ DpAll K H (bs.map (·.1)) (bs.map (·.2)) ∧ AllAlike (bs.map (·.2)) ∧ (PySem.W.Sortable (bs.map (·.2)) ∨ bs.length ≤ 1) ∧ (∀ b ∈ bs, b.2.depth ≤ 60) ∧
  ∀ p, H p = none → Q (.ref p) (upd H p (.lst ((bs.mergeSort (dataLe false fun b => b.2)).map (·.1))))
theorem merge_small {α : Type} {le : α → α → Bool} {xs : List α} (h : xs.length ≤ 1) : xs.mergeSort le = xs := by
  match xs, h with
  | [], _ => simp
  | [x], _ => simp
theorem cr_srt2 {X : Cx} (hu : X.A.units + 64 < cLine) : CallR X (.builtin "sorted") (rSrt2 X.K) := by
  intro pins s σ H args us Q I r h
  obtain ⟨a, bs, ea, hs, hd, hal, hk, hdep, q⟩ := h
  rcases hk with hk | h1
  · exact cr_srt hu pins s σ H args us Q I r ⟨a, bs, ea, hs, hd, hal, hk, hdep, q⟩
  subst ea
  obtain ⟨its, rv, hl, hz⟩ := I.list hs
  rw [Vals.ref1 r]
  have hlen : its.length = bs.length := by rw [← rv.length, List.length_map]
  refine PySem.W.sorted_of_sort hl.isList (by rw [hlen]; exact Nat.le_trans h1 (by decide)) (args_sorted1 _) (fun _ => args_list_sort _) fun _ => list_sort_small (s := { s with heap := PySem.W.copyHeap s.heap its }) (PySem.W.copyHeap_at s.heap its) (by omega) ⟨rfl, ?_⟩
  obtain ⟨ep, he'⟩ := PyProof.Rows.sortedAll_at s.heap its its.toArray
  have e : bs.mergeSort (dataLe false fun b => b.2) = bs := merge_small h1
  rw [e] at q
  exact ⟨.ref _, upd H (s.heap.objs.size + 1) (.lst (bs.map (·.1))), I.laid (t' := s.toks) (fun _ _ => PyProof.Rows.sortedAll_old) (Nat.le_succ _) ⟨by rw [List.length_map]; exact Nat.le_trans h1 (by decide), its, ep, rv, he'⟩, rfl, q _ (I.hok.fresh (Nat.le_succ _))⟩
section
variable {P : Program} {w : World} {K : PySem.W.Frag} {mg : Str → Option Value} {base : Heap} {N : List Str} {sc : Scope} {fn : Str → Bool} {k : Nat}
variable {M : Fm P w K mg base N sc fn k}
variable {S : Type} {O : S → Res} {Γ : Asrt} {s : S} {α β γ ρ : Type} {ra : RP α} {rb : RP β} {rc : RP γ} {A : ρ → VA}
theorem xe_sortedC [DecidableEq α] {e : Expr} {p pos : Pos} {wa : (List α → S → Prop) → Prop} {cd : List α → Prop} (D : Dat K ra) (sD : SrtC D cd) (hm : mg "sorted" = none) (ha : XE M O Γ s e (fz (pL K ra)) wa) (hn : D.n ≤ 60 := by exact Nat.le_of_ble_eq_true rfl) (hg : GlN sc "sorted" := by rfl) (hs : NoStar e := by intro _ _; rfl) :
    XE M O Γ s (.Call (.Name "sorted" p) [e] [] pos) (ol ra) (fun k => wa fun x s1 => cd x ∧ k (srt D x) s1) := by
  refine xe_cb1 (A := ol ra) (Wo := fun x k => cd x ∧ k (srt D x)) b_sorted (fun i => by have h := cr_srt2 (X := M.X i) (M.room i).units; rw [M.kf i] at h; exact h) ?_ hm hg ha (by decide) (by decide) hs
  intro S' O' HI Γ' s' σ F H x u C Q st rx hq hc
  obtain ⟨a, vs, rfl, hS, al⟩ := rx
  obtain ⟨bs, e1, e2, e3, T, t1, t2, t3⟩ := all2_dp D st.ok al
  refine ⟨a, bs, rfl, by rw [e1]; exact SqL.mono st.ok hS, by rw [e1, e2]; exact e3, fun d hd d' hd' => ?_, ?_, fun b hb => ?_, fun q hp => ?_⟩
  · rw [e2] at hd hd'
    obtain ⟨y, _, rfl⟩ := List.mem_map.mp hd
    obtain ⟨z, _, rfl⟩ := List.mem_map.mp hd'
    exact sD.al y z
  · rcases sD.so x hc.1 with q | q
    · left; rw [e2]; exact q
    · right
      have l := congrArg List.length e2
      rw [List.length_map, List.length_map] at l
      omega
  · have : b.2 ∈ bs.map (·.2) := List.mem_map.mpr ⟨b, hb, rfl⟩
    rw [e2] at this
    obtain ⟨y, _, ey⟩ := List.mem_map.mp this
    rw [← ey]; exact Nat.le_trans (D.dep y) hn
  · have m1 : (T.mergeSort (dataLe false fun t => D.d t.1)).map (·.1) = srt D x := by
      unfold srt
      rw [← t1]
      exact List.map_mergeSort (s := dataLe false D.d) fun _ _ _ _ => rfl
    have m2 : (bs.mergeSort (dataLe false fun b => b.2)).map (·.1) = (T.mergeSort (dataLe false fun t => D.d t.1)).map (·.2) := by
      rw [t2, ← List.map_mergeSort (r := dataLe false fun t : α × V => D.d t.1) (s := dataLe false fun b : V × PyData => b.2) (f := fun t : α × V => (t.2, D.d t.1)) (fun _ _ _ _ => rfl), List.map_map]
      rfl
    rw [m2]
    refine hq _ _ F _ hc.2 (Same.refl _) (st.newV hp ⟨q, _, rfl, rfl, ?_⟩)
    rw [← m1]
    exact all2_of fun t ht => t3 t (List.mem_mergeSort.mp ht)
/-- rows, none of them empty -/
def rowsOk {α : Type} (xs : List (List α)) : Prop := (∀ x ∈ xs, x ≠ []) ∨ xs.length ≤ 1
theorem scU [DecidableEq α] {D : Dat K ra} (h : Srt D) : SrtC (dU D) rowsOk := ⟨fun x y => by
  show PySem.W.alike (.tuple (x.map D.d)) (.tuple (y.map D.d)) = true
  rw [PySem.W.alike]; exact alike_all h x y, fun xs q => by
  rcases q with q | q
  · refine .inl (.inl fun d hd => ?_)
    obtain ⟨x, hx, rfl⟩ := List.mem_map.mp hd
    cases x with
    | nil => exact absurd rfl (q _ hx)
    | cons y x => exact ⟨_, _, rfl⟩
  · exact .inr q⟩
end
end Sm

set_option Elab.async false
set_option linter.all false
set_option maxRecDepth 100000
set_option maxHeartbeats 4000000
namespace Sm
open PySem PySem.Spec PyProof.Rows L2
section
variable {P : Program} {w : World} {K : PySem.W.Frag} {mg : Str → Option Value} {base : Heap} {N : List Str} {sc : Scope} {fn : Str → Bool} {k : Nat}
variable {M : Fm P w K mg base N sc fn k}
variable {S : Type} {O : S → Res} {Γ : Asrt} {s : S} {κ α β γ ρ : Type} [DecidableEq κ] {rk : RP κ} {ky : KeyR rk} {rv : RP β} {ra : RP α} {rb : RP γ} {A : ρ → VA}
/-- what a slot owns, and what stands beside it -/
theorem Stt.ownG {HI F H : Hp} {σ : L2.St} {i : Nat} {B : VA} (h : Stt O HI Γ s σ F H) (e : Γ[i]? = some (some B)) :
    ∃ v g1 g2, σ[i]? = some (some v) ∧ B.p v F g1 ∧ Ok F (g1 ++ g2) HI H ∧ ∀ F' H' A' g1', Same F F' → A'.p v F' g1' → Ok F' (g1' ++ g2) HI H' → Stt O HI (Γ.set i (some A')) s σ F' H' := by
  obtain ⟨h1, h2, b, c, d⟩ := h
  obtain ⟨v, g1, g2, a1, a2, hb, back⟩ := b.at e
  refine ⟨v, g1, g2 ++ h2, a1, hb, d.perm ?_, fun F' H' A' g1' e' ha ok => ?_⟩
  · rw [← List.append_assoc]; exact a2.append_right h2
  · obtain ⟨h', p, q⟩ := back F' A' v g1' e' ha
    rw [set_same a1] at q
    refine ⟨h', h2, q, (O s).mono e' c, ok.perm ?_⟩
    rw [← List.append_assoc]
    exact (p.append_right h2).symm
/-! ### dicts in slots and at known addresses: looked at -/
def DAt (O : S → Res) (Γ : Asrt) (i : Nat) (ky : KeyR rk) (rv : RP β) (dd : S → List (κ × β)) : Prop :=
  ∀ {HI s σ F H}, Stt O HI Γ s σ F H → ∃ a kvs, σ[i]? = some (some (.ref a)) ∧ H a = some (.dK kvs) ∧ AllD ky rv F (dd s) kvs
theorem dat_own {i : Nat} {d : List (κ × β)} (hΓ : Γ[i]? = some (some (od ky rv d))) : DAt O Γ i ky rv (fun _ => d) := fun st => by
  obtain ⟨v, g1, g2, ev, ⟨a, kvs, rfl, eg, al⟩, ok, _⟩ := st.ownG hΓ
  subst eg
  exact ⟨a, kvs, ev, (ok.own _ List.mem_cons_self).1, al⟩
theorem dat_fz {i : Nat} {d : List (κ × β)} (hΓ : Γ[i]? = some (some (fz (pD ky rv) d))) : DAt O Γ i ky rv (fun _ => d) := fun st => by
  obtain ⟨v, ev, a, kvs, rfl, hF, al⟩ := st.slot hΓ
  exact ⟨a, kvs, ev, st.ok _ _ hF, al⟩
theorem dat_res {i : Nat} {a : Addr} {get : S → List (κ × β)} {put : S → List (κ × β) → S} (foc : Foc O (resD ky rv a) get put) (hΓ : Γ[i]? = some (some (fz pA a))) : DAt O Γ i ky rv get := fun st => by
  obtain ⟨v, ev, r⟩ := st.slot hΓ
  have r : v = .ref a := r
  subst r
  obtain ⟨g1, g2, ⟨kvs, eg, al⟩, ok, _⟩ := st.res foc
  subst eg
  exact ⟨a, kvs, ev, (ok.own _ List.mem_cons_self).1, al⟩
section
variable {i : Nat} {x : Str} {p1 ap pos cp : Pos} {e f : Expr} {dd : S → List (κ × β)} {we : (κ → S → Prop) → Prop} {wf : S → (β → S → Prop) → Prop}
theorem xe_dgetV (hD : DAt O Γ i ky rv dd) (he : XE M O Γ s e (fz rk) we) (hs : NoSl e := by intro _ _; rfl) (hN : N[i]? = some x := by rfl) (hv : Vis sc x := by first | exact Or.inl rfl | exact Or.inr (Or.inl rfl) | exact Or.inr (Or.inr rfl))
    (hd : (x == ("__debug__" : Str)) = false := by decide) (hcd : (x == ("__classdict__" : Str)) = false := by decide) :
    XE M O Γ s (.Subscript (.Name x p1) e pos) (fz rv) (fun k => we fun z s1 => ∃ y, dget (dd s1) z = some y ∧ k y s1) := by
  intro HI C Q σ F H st hq hc
  obtain ⟨a, _, ev, _, _⟩ := hD st
  refine ⟨_, fun j => pe_dget (M.hu1 j) (pe_nameO (pos := p1) hN hv hd hcd j) (rdE_ok j) hs, .ref a, ev, ?_⟩
  refine he HI _ _ σ F H st (fun z s1 u F1 H1 c1 e1 sv1 => ?_) hc
  obtain ⟨rx, st1⟩ := sv1.fz
  obtain ⟨y, hy, c⟩ := c1
  obtain ⟨a', kvs, ev', hH, al⟩ := hD st1
  rw [ev] at ev'; cases ev'
  obtain ⟨v', g, r⟩ := dk_get hH al hy
  exact ⟨a, v', rfl, by rw [ky.val rx]; exact g, hq y s1 v' F1 H1 c e1 (st1.val r)⟩
theorem xc_dinV (hD : DAt O Γ i ky rv dd) (he : XE M O Γ s e (fz rk) we) (hN : N[i]? = some x := by rfl) (hv : Vis sc x := by first | exact Or.inl rfl | exact Or.inr (Or.inl rfl) | exact Or.inr (Or.inr rfl))
    (hd : (x == ("__debug__" : Str)) = false := by decide) (hcd : (x == ("__classdict__" : Str)) = false := by decide) :
    XE M O Γ s (.Compare e [.In] [.Name x p1] pos) (fz pB) (fun k => we fun z s1 => k (dget (dd s1) z).isSome s1) := by
  intro HI C Q σ F H st hq hc
  refine ⟨_, fun j => pe_cmp (pc_din (M.hu1 j) (rdE_ok j) (pe_nameO (pos := p1) hN hv hd hcd j)) rfl, ?_⟩
  refine he HI _ _ σ F H st (fun z s1 u F1 H1 c1 e1 sv1 => ?_) hc
  obtain ⟨rx, st1⟩ := sv1.fz
  obtain ⟨a, kvs, ev, hH, al⟩ := hD st1
  obtain ⟨o, g, o1, _, _⟩ := dk_opt (x := z) hH al
  exact ⟨.ref a, ev, a, o, rfl, by rw [ky.val rx]; exact g, hq _ s1 _ F1 H1 c1 e1 (st1.val (by show V.bl _ = V.bl _; rw [o1]))⟩
theorem xc_dninV (hD : DAt O Γ i ky rv dd) (he : XE M O Γ s e (fz rk) we) (hN : N[i]? = some x := by rfl) (hv : Vis sc x := by first | exact Or.inl rfl | exact Or.inr (Or.inl rfl) | exact Or.inr (Or.inr rfl))
    (hd : (x == ("__debug__" : Str)) = false := by decide) (hcd : (x == ("__classdict__" : Str)) = false := by decide) :
    XE M O Γ s (.Compare e [.NotIn] [.Name x p1] pos) (fz pB) (fun k => we fun z s1 => k (dget (dd s1) z).isNone s1) := by
  intro HI C Q σ F H st hq hc
  refine ⟨_, fun j => pe_cmp (pc_dnotin (M.hu1 j) (rdE_ok j) (pe_nameO (pos := p1) hN hv hd hcd j)) rfl, ?_⟩
  refine he HI _ _ σ F H st (fun z s1 u F1 H1 c1 e1 sv1 => ?_) hc
  obtain ⟨rx, st1⟩ := sv1.fz
  obtain ⟨a, kvs, ev, hH, al⟩ := hD st1
  obtain ⟨o, g, o1, _, _⟩ := dk_opt (x := z) hH al
  exact ⟨.ref a, ev, a, o, rfl, by rw [ky.val rx]; exact g, hq _ s1 _ F1 H1 c1 e1 (st1.val (by show V.bl _ = V.bl _; rw [o1]; cases dget (dd s1) z <;> rfl))⟩
theorem xe_dgetdV (hD : DAt O Γ i ky rv dd) (he : XE M O Γ s e (fz rk) we) (hf : ∀ s', XE M O Γ s' f (fz rv) (wf s')) (m : ∀ j, M2 (M.X j) (.Name x p1) "get" ap e f cp := by intro _; exact ⟨rfl, rfl, rfl, rfl⟩) (hN : N[i]? = some x := by rfl) (hv : Vis sc x := by first | exact Or.inl rfl | exact Or.inr (Or.inl rfl) | exact Or.inr (Or.inr rfl))
    (hd : (x == ("__debug__" : Str)) = false := by decide) (hcd : (x == ("__classdict__" : Str)) = false := by decide) :
    XE M O Γ s (.Call (.Attribute (.Name x p1) "get" ap) [e, f] [] cp) (fz rv) (fun k => we fun z s1 => wf s1 fun u s2 => k ((dget (dd s2) z).getD u) s2) := by
  intro HI C Q σ F H st hq hc
  obtain ⟨a, kvs0, ev, hH0, _⟩ := hD st
  refine ⟨_, fun j => pe_dget2 (M.hu1 j) (pe_nameO (pos := p1) hN hv hd hcd j) (rdE_ok j) (rdE_ok j) (m j), .ref a, ev, a, rfl, .inl ⟨kvs0, .inl hH0⟩, ?_⟩
  refine he HI _ _ σ F H st (fun z s1 u F1 H1 c1 e1 sv1 => ?_) hc
  obtain ⟨rx, st1⟩ := sv1.fz
  refine hf s1 HI _ _ σ F1 H1 st1 (fun y s2 v2 F2 H2 c2 e2 sv2 => ?_) c1
  obtain ⟨rz, st2⟩ := sv2.fz
  obtain ⟨a', kvs, ev', hH, al⟩ := hD st2
  rw [ev] at ev'; cases ev'
  obtain ⟨o, g, _, o2, o3⟩ := dk_opt (x := z) hH al
  refine ⟨o, by rw [ky.val rx]; exact g, hq _ s2 _ F2 H2 c2 (e1.trans e2) (st2.val ?_)⟩
  cases q : dget (dd s2) z with
  | none => rw [o3 q]; exact rz
  | some y =>
    obtain ⟨v', ev2, r⟩ := o2 y q
    rw [ev2]; exact r
/-! ### stores into dicts -/
variable {HI F0 : Hp} {D : Ends} {rest : List Stmt} {p2 : Pos} {wv : (β → S → Prop) → Prop} {wk : S → (κ → S → Prop) → Prop} {d : List (κ × β)}
/-- x[e] = f, x owned -/
theorem xs_dputO {Pk : κ → β → S → Prop} (i : Nat) (hΓ : Γ[i]? = some (some (od ky rv d))) (hf : XE M O Γ s f (fz rv) wv) (he : ∀ s', XE M O Γ s' e (fz rk) (wk s')) (hk : ∀ z y s', XSs M O HI F0 (Γ.set i (some (od ky rv (dput d z y)))) s' rest D (Pk z y s'))
    (hN : N[i]? = some x := by rfl) (hv : Vis sc x := by first | exact Or.inl rfl | exact Or.inr (Or.inl rfl) | exact Or.inr (Or.inr rfl)) (hd : (x == ("__debug__" : Str)) = false := by decide) (hcd : (x == ("__classdict__" : Str)) = false := by decide)
    (hs : ∀ j, swapsWith f (some (.Subscript (.Name x p1) e p2)) pos.line (M.X j).env = pure false := by intro _; rfl) :
    XSs M O HI F0 Γ s (.Assign [.Subscript (.Name x p1) e p2] f pos :: rest) D (wv fun y s1 => wk s1 fun z s2 => d.length < sizeLine ∧ Pk z y s2) := by
  intro σ F H e0 st hp
  refine ⟨_, fun j => pss_cons (ps_dput (M.hu1 j) (pe_nameO (pos := p1) hN hv hd hcd j) (rdE_ok j) (rdE_ok j) (hs j)) (rdSs_ok j), ?_⟩
  refine hf HI _ _ σ F H st (fun y s1 v F1 H1 c1 e1 sv1 => ?_) hp
  obtain ⟨ry, st1⟩ := sv1.fz
  obtain ⟨v0, _, _, ev, ⟨a, kvs0, rfl, _, _⟩, _, _⟩ := st1.ownG hΓ
  refine ⟨.ref a, ev, ?_⟩
  refine he s1 HI _ _ σ F1 H1 st1 (fun z s2 u F2 H2 c2 e2 sv2 => ?_) c1
  obtain ⟨rz, st2⟩ := sv2.fz
  obtain ⟨v', g1, g2, ev', ⟨a', kvs, rfl, eg, al⟩, ok, back⟩ := st2.ownG hΓ
  rw [ev] at ev'; cases ev'
  subst eg
  refine ⟨a, _, rfl, by rw [ky.val rz]; exact DPut.k (ok.own _ List.mem_cons_self).1 (by rw [← al.length]; exact c2.1), ?_⟩
  exact hk z y s2 σ F2 _ (e0.trans (e1.trans e2)) (back F2 _ _ [(a, .dK (putK kvs (ky.key z) v))] (Same.refl _) ⟨a, _, rfl, rfl, al.put (rv.mono e2 ry)⟩ ok.set) c2.2
/-- x[e] = f, x at a known address -/
theorem xs_dputR {Pk : S → Prop} {a : Addr} {get : S → List (κ × β)} {put : S → List (κ × β) → S} (foc : Foc O (resD ky rv a) get put) (hΓ : Γ[i]? = some (some (fz pA a))) (hf : XE M O Γ s f (fz rv) wv) (he : ∀ s', XE M O Γ s' e (fz rk) (wk s')) (hk : ∀ s', XSs M O HI F0 Γ s' rest D (Pk s'))
    (hN : N[i]? = some x := by rfl) (hv : Vis sc x := by first | exact Or.inl rfl | exact Or.inr (Or.inl rfl) | exact Or.inr (Or.inr rfl)) (hd : (x == ("__debug__" : Str)) = false := by decide) (hcd : (x == ("__classdict__" : Str)) = false := by decide)
    (hs : ∀ j, swapsWith f (some (.Subscript (.Name x p1) e p2)) pos.line (M.X j).env = pure false := by intro _; rfl) :
    XSs M O HI F0 Γ s (.Assign [.Subscript (.Name x p1) e p2] f pos :: rest) D (wv fun y s1 => wk s1 fun z s2 => (get s2).length < sizeLine ∧ Pk (put s2 (dput (get s2) z y))) := by
  intro σ F H e0 st hp
  refine ⟨_, fun j => pss_cons (ps_dput (M.hu1 j) (pe_nameO (pos := p1) hN hv hd hcd j) (rdE_ok j) (rdE_ok j) (hs j)) (rdSs_ok j), ?_⟩
  refine hf HI _ _ σ F H st (fun y s1 v F1 H1 c1 e1 sv1 => ?_) hp
  obtain ⟨ry, st1⟩ := sv1.fz
  obtain ⟨v0, ev, r0⟩ := st1.slot hΓ
  have r0 : v0 = .ref a := r0
  subst r0
  refine ⟨.ref a, ev, ?_⟩
  refine he s1 HI _ _ σ F1 H1 st1 (fun z s2 u F2 H2 c2 e2 sv2 => ?_) c1
  obtain ⟨rz, st2⟩ := sv2.fz
  obtain ⟨g1, g2, ⟨kvs, eg, al⟩, ok, back⟩ := st2.res foc
  subst eg
  refine ⟨a, _, rfl, by rw [ky.val rz]; exact DPut.k (ok.own _ List.mem_cons_self).1 (by rw [← al.length]; exact c2.1), ?_⟩
  exact hk _ σ F2 _ (e0.trans (e1.trans e2)) (back F2 _ _ [(a, .dK (putK kvs (ky.key z) v))] (Same.refl _) ⟨_, rfl, al.put (rv.mono e2 ry)⟩ ok.set) c2.2
end
/-- a dict's slot is frozen -/
theorem xs_freezeD {HI F0 : Hp} {D : Ends} {sts : List Stmt} {Pf : Prop} {d : List (κ × β)} (i : Nat) (e : Γ[i]? = some (some (od ky rv d))) (h : XSs M O HI F0 (Γ.set i (some (fz (pD ky rv) d))) s sts D Pf) : XSs M O HI F0 Γ s sts D Pf := by
  intro σ F H e0 st hp
  obtain ⟨v, g1, g2, ev, ⟨a, kvs, rfl, eg, al⟩, ok, back⟩ := st.ownG e
  subst eg
  have e1 : Same F (upd F a (.dK kvs)) := same_upd (ok.own _ List.mem_cons_self).2.1
  exact h σ _ H (e0.trans e1) (back _ _ _ [] e1 ⟨rfl, a, kvs, rfl, upd_same, al.mono e1⟩ ok.freeze) hp
/-! ### a thing made here becomes one more resource -/
def Adp {S2 : Type} (B : VA) (O2 : Addr → S2 → Res) (I : S2 → Prop) : Prop := ∀ n, I n → ∀ v F hv, B.p v F hv → ∃ a, v = .ref a ∧ (O2 a n).p F hv
theorem ad_L {S2 : Type} {J : S2 → List α → Prop} {y : List α} : Adp (ol ra y) (fun a => hidR J (resL ra a)) (fun n => J n y) := fun n h v F hv ⟨a, vs, ev, eh, al⟩ => ⟨a, ev, y, h, vs, eh, al⟩
theorem ad_L0 {y : List α} : Adp (ol ra y) (fun a => resL ra a) (fun n => n = y) := fun n h v F hv ⟨a, vs, ev, eh, al⟩ => ⟨a, ev, vs, eh, by rw [h]; exact al⟩
theorem ad_D {S2 : Type} {J : S2 → List (κ × β) → Prop} {d : List (κ × β)} : Adp (od ky rv d) (fun a => hidR J (resD ky rv a)) (fun n => J n d) := fun n h v F hv ⟨a, kvs, ev, eh, al⟩ => ⟨a, ev, d, h, kvs, eh, al⟩
theorem ad_D0 {d : List (κ × β)} : Adp (od ky rv d) (fun a => resD ky rv a) (fun n => n = d) := fun n h v F hv ⟨a, kvs, ev, eh, al⟩ => ⟨a, ev, kvs, eh, by rw [h]; exact al⟩
theorem xs_adoptX {S2 : Type} {B : VA} {O2 : Addr → S2 → Res} {I : S2 → Prop} (ad : Adp B O2 I) {HI F0 : Hp} {sts : List Stmt} {Pk : S2 → Prop} {D : Ends} {D1 : Addr → Ends} (i : Nat) (hΓ : Γ[i]? = some (some B)) (hD : ∀ a, Eds (D1 a) D)
    (hk : ∀ n a, XSs M (resP O (O2 a)) HI F0 (Γ.set i (some (fz pA a))) (s, n) sts (D1 a) (Pk n)) : XSs M O HI F0 Γ s sts D (∃ n, I n ∧ Pk n) := by
  intro σ F H e0 st hp
  obtain ⟨n, hi, hp⟩ := hp
  obtain ⟨h1, h2, sa, so, ok⟩ := st
  obtain ⟨v, g1, g2, ev, pm, hb, back⟩ := sa.at hΓ
  obtain ⟨a, rfl, o2⟩ := ad n hi v F g1 hb
  obtain ⟨h', p', q'⟩ := back F (fz pA a) (.ref a) [] (Same.refl _) ⟨rfl, rfl⟩
  rw [set_same ev] at q'
  refine rdSs_mono (hk n a σ F H e0 ⟨h', h2 ++ g1, q', ⟨h2, g1, rfl, so, o2⟩, ok.perm ?_⟩ hp) (hD a).nx (hD a).rt (hD a).bk (hD a).ct
  rw [← List.append_assoc]
  refine (pm.append_right h2).trans ?_
  rw [List.append_assoc]
  refine (List.perm_append_comm).trans ?_
  have p' : h'.Perm g2 := p'
  exact (p'.symm.append_right h2).append_right g1
theorem xs_adoptXF {S1 S2 : Type} {O : S1 → Res} {s : S1} {B : VA} {O2 : Addr → S2 → Res} {I : S2 → Prop} (ad : Adp B O2 I) {HI F0 : Hp} {sts : List Stmt} {R : ρ → S1 → Prop} {Pk : S2 → Prop} (i : Nat) (hΓ : Γ[i]? = some (some B))
    (hk : ∀ n a, XSs M (resP O (O2 a)) HI F0 (Γ.set i (some (fz pA a))) (s, n) sts { nx := fun _ H' => rtJ (resP O (O2 a)) HI F0 A (fun y s => R y s.1) .non H', rt := rtJ (resP O (O2 a)) HI F0 A (fun y s => R y s.1), bk := fun _ _ => False, ct := fun _ _ => False } (Pk n)) :
    XSs M O HI F0 Γ s sts { nx := fun _ H' => rtJ O HI F0 A R .non H', rt := rtJ O HI F0 A R, bk := fun _ _ => False, ct := fun _ _ => False } (∃ n, I n ∧ Pk n) :=
  xs_adoptX (M := M) ad i hΓ (fun a => ⟨eq_fx, eq_rt, ed_no, ed_no⟩) hk
theorem xs_adoptXL {S1 S2 : Type} {O : S1 → Res} {s : S1} {B : VA} {O2 : Addr → S2 → Res} {I : S2 → Prop} (ad : Adp B O2 I) {HI F0 F1 F2 : Hp} {sts : List Stmt} {R : ρ → S1 → Prop} {Pk : S2 → Prop} {Γn : γ → Asrt} {Γb : β → Asrt} {kn : γ → S1 → Prop} {kb : β → S1 → Prop} (i : Nat) (hΓ : Γ[i]? = some (some B))
    (hk : ∀ n a, XSs M (resP O (O2 a)) HI F1 (Γ.set i (some (fz pA a))) (s, n) sts { nx := nxJ (resP O (O2 a)) HI F1 Γn (fun g s => kn g s.1), rt := rtJ (resP O (O2 a)) HI F0 A (fun y s => R y s.1), bk := nxJ (resP O (O2 a)) HI F2 Γb (fun g s => kb g s.1), ct := nxJ (resP O (O2 a)) HI F1 Γn (fun g s => kn g s.1) } (Pk n)) :
    XSs M O HI F1 Γ s sts { nx := nxJ O HI F1 Γn kn, rt := rtJ O HI F0 A R, bk := nxJ O HI F2 Γb kb, ct := nxJ O HI F1 Γn kn } (∃ n, I n ∧ Pk n) :=
  xs_adoptX (M := M) ad i hΓ (fun a => ⟨eq_nx, eq_rt, eq_nx, eq_nx⟩) hk
/-! ### while -/
def whN {γ S : Type} (T : γ → S → (Bool → S → Prop) → Prop) (B : γ → S → (γ → S → Prop) → (γ → S → Prop) → Prop) (k : γ → S → Prop) : Nat → γ → S → Prop
  | 0, _, _ => False
  | n + 1, c, s => T c s fun b s1 => if b = true then B c s1 (fun c' s' => whN T B k n c' s') k else k c s1
def whB {γ S : Type} (T : γ → S → (Bool → S → Prop) → Prop) (B : γ → S → (γ → S → Prop) → (γ → S → Prop) → Prop) (k : γ → S → Prop) (c : γ) (s : S) : Prop := ∃ n, whN T B k n c s
theorem xs_while {HI F0 : Hp} {nx rt bk ct} {test : Expr} {body rest : List Stmt} {pos : Pos} {T : γ → S → (Bool → S → Prop) → Prop} {B : γ → S → (γ → S → Prop) → (γ → S → Prop) → Prop} {Pk : γ → S → Prop}
    (Γi : γ → Asrt) (c0 : γ) (h0 : Le Γ (Γi c0)) (ht : ∀ c s', XT M O (Γi c) s' test (T c s'))
    (hb : ∀ F1, Same F0 F1 → ∀ c kn kb s', XSs M O HI F1 (Γi c) s' body { nx := nxJ O HI F1 Γi kn, rt := rt, bk := nxJ O HI F0 Γi kb, ct := nxJ O HI F1 Γi kn } (B c s' kn kb))
    (hk : ∀ c s', XSs M O HI F0 (Γi c) s' rest { nx := nx, rt := rt, bk := bk, ct := ct } (Pk c s')) :
    XSs M O HI F0 Γ s (.While test body [] pos :: rest) { nx := nx, rt := rt, bk := bk, ct := ct } (whB T B Pk c0 s) := by
  intro σ F H e0 st hp
  refine seqJ (R := nxJ O HI F0 Γi Pk) (fun σ' H' ⟨z, s', F', p, e, st'⟩ => hk z s' σ' F' H' e st' p) ?_
  obtain ⟨n0, hp⟩ := hp
  refine ⟨_, fun j => ps_while (M.pass j) (rdT_ok j) (rdSs_ok j), fun n σ H => ∃ c s' F', Same F0 F' ∧ Stt O HI (Γi c) s' σ F' H ∧ whN T B Pk n c s', ⟨n0, c0, s, F, e0, st.le h0, hp⟩, ?_⟩
  rintro n σ2 H2 ⟨c, s', F', e2, st2, fw⟩
  cases n with
  | zero => exact fw.elim
  | succ n =>
    refine ht c s' HI _ _ σ2 F' H2 st2 (fun b s1 F1 H1 c1 e1 st1 => ?_) fw
    cases b with
    | false => exact iteF ⟨c, s1, F1, by simpa using c1, e2.trans e1, st1⟩
    | true =>
      refine iteT ⟨nxJ O HI F1 Γi (fun c' s' => whN T B Pk n c' s'), fun σ' H' ⟨c', s5, F5, p5, e5, st5⟩ => ⟨n, Nat.lt_succ_self n, c', s5, F5, (e2.trans e1).trans e5, st5, p5⟩, ?_⟩
      exact hb F1 (e2.trans e1) c _ _ s1 σ2 F1 H1 (Same.refl _) st1 (by simpa using c1)
/-! ### tg = x.pop(), x owned -/
theorem xs_popAsg {HI F0 : Hp} {D : Ends} {tg : Expr} {x : Str} {p1 ap cp pos : Pos} {rest : List Stmt} {g : α → Asrt → Asrt} {L : List Nat} {xs : List α} {Pk : α → S → Prop} (i : Nat) (hΓ : Γ[i]? = some (some (ol ra xs))) (hg : XGt M tg ra g L)
    (hk : ∀ y s', XSs M O HI F0 (g y (Γ.set i (some (ol ra xs.dropLast)))) s' rest D (Pk y s')) (hl : Γ.length = N.length := by rfl) (hN : N[i]? = some x := by rfl) (hv : Vis sc x := by first | exact Or.inl rfl | exact Or.inr (Or.inl rfl) | exact Or.inr (Or.inr rfl)) (hd : (x == ("__debug__" : Str)) = false := by decide) (hcd : (x == ("__classdict__" : Str)) = false := by decide)
    (hbase : ∀ env, attributeBase (.Name x p1) "pop" env (eval (.Name x p1) env) = eval (.Name x p1) env := by intro _; rfl) (hline : (ap.endLine == cp.line) = true := by rfl)
    (hs : ∀ j, swapsWithSole [tg] (.Call (.Attribute (.Name x p1) "pop" ap) [] [] cp) pos.line (M.X j).env = pure false := by intro _; rfl) (hw : ∀ j, swappedStores [tg] (.Call (.Attribute (.Name x p1) "pop" ap) [] [] cp) (M.X j).env = pure none := by intro _; rfl) (h1 : ∀ env, (assignEach [tg] env).map (·.2) = [assign tg env] := by intro _; rfl) :
    XSs M O HI F0 Γ s (.Assign [tg] (.Call (.Attribute (.Name x p1) "pop" ap) [] [] cp) pos :: rest) D (∃ y, xs[xs.length - 1]? = some y ∧ Pk y s) := by
  intro σ F H e0 st hp
  obtain ⟨y, hy, hp⟩ := hp
  refine ⟨_, fun j => pss_cons (ps_asg (by
    have h := pe_bm0 (X := M.X j) (cpos := cp) (apos := ap) PySem.F.plainAttrs_list PySem.F.slot_list_pop PySem.F.type_list_pop mt_pop (pe_nameO (pos := p1) hN hv hd hcd j) (hbase _) hline
    rw [M.kf j] at h; exact h) (rdG_ok j) (hs j) (hw j) (h1 _)) (rdSs_ok j), ?_⟩
  obtain ⟨a, vs, ea, eh, al, up⟩ := st.own hΓ
  obtain ⟨v, hv2, rv⟩ := al.get hy
  refine ⟨.ref a, ea, .inl ⟨rfl, vs, SqL.of eh⟩, a, vs, v, rfl, rfl, eh, by rw [← al.length]; exact hv2, ?_⟩
  have st2 := up _ _ al.dropLast
  exact hg.run O HI _ s σ F _ y v _ (by rw [List.length_set]; exact hl) st2 rv fun σ' l o st3 => hk y s σ' F _ e0 st3 hp
/-! ### bit_length, count of a list -/
theorem xe_bits {o : Expr} {ap pos : Pos} {wa : (Int → S → Prop) → Prop} (ha : XE M O Γ s o (fz pI) wa) (hbase : ∀ env, attributeBase o "bit_length" env (eval o env) = eval o env := by intro _; rfl) (hline : (ap.endLine == pos.line) = true := by rfl) :
    XE M O Γ s (.Call (.Attribute o "bit_length" ap) [] [] pos) (fz pI) (fun k => wa fun x s1 => k ((Builtin.Int.intBits x : Nat) : Int) s1) := by
  intro HI C Q σ F H st hq hc
  refine ⟨_, fun i => pe_bits (rdE_ok i) (hbase _) hline, ha HI _ _ σ F H st (fun x s1 u F1 H1 c1 e1 sv1 => ?_) hc⟩
  obtain ⟨rx, st1⟩ := sv1.fz
  exact ⟨x, rx, hq _ s1 _ F1 H1 c1 e1 (st1.val rfl)⟩
theorem ints_map {F : Hp} : ∀ {xs : List Int} {vs : List V}, All2 (fun x v => pI.r x v F) xs vs → vs = xs.map V.int := fun h => All2.map_eq (f := V.int) h
theorem xe_lcount {o e : Expr} {ap cp : Pos} {wa : (List Int → S → Prop) → Prop} {wb : S → (Int → S → Prop) → Prop} (ha : XE M O Γ s o (fz (pL K pI)) wa) (hb : ∀ s', XE M O Γ s' e (fz pI) (wb s')) (hns : NoStar e := by intro _ _; rfl)
    (hfew : ∀ env, ((backTo cp (starEach [e] env)).all (fun x => !x.1) && (backToKw cp (keywordEach [] env)).all (fun x => x.1.isSome) && decide ([e].length + ([] : List Keyword).length + (if ([] : List Keyword).isEmpty then 0 else 1) < 30)) = true := by intro _; rfl)
    (hbase : ∀ env, attributeBase o "count" env (eval o env) = eval o env := by intro _; rfl) (hline : (ap.endLine == cp.line) = true := by rfl) :
    XE M O Γ s (.Call (.Attribute o "count" ap) [e] [] cp) (fz pI) (fun k => wa fun x s1 => wb s1 fun y s2 => k ((x.count y : Nat) : Int) s2) := by
  intro HI C Q σ F H st hq hc
  refine ⟨tBM K "list" (rCntI K) (rdE M o) (tCons (rdE M e) tNil), fun j => (by
    have h := pe_bm (X := M.X j) (cpos := cp) PySem.F.plainAttrs_list PySem.F.slot_list_count PySem.F.type_list_count mt_lcount (rdE_ok (M := M) j (e := o)) (pa_cons (rdE_ok (M := M) j) pa_nil (hns _ _)) (hbase _) (hfew _) hline (hns _ _) rfl
    rw [M.kf j] at h; exact h), ha HI _ _ σ F H st (fun x s1 u F1 H1 c1 e1 sv1 => ?_) hc⟩
  obtain ⟨⟨a, vs, rfl, hS, al⟩, st1⟩ := sv1.fz
  refine ⟨.inl ⟨rfl, vs, SqL.mono st1.ok hS⟩, ?_⟩
  refine hb s1 HI _ _ σ F1 H1 st1 (fun y s2 v F2 H2 c2 e2 sv2 => ?_) c1
  obtain ⟨ry, st2⟩ := sv2.fz
  have ev := ints_map al
  subst ev
  exact ⟨a, x, y, rfl, by rw [show v = V.int y from ry], SqL.mono (e2.trans st2.ok) hS, hq _ s2 _ F2 H2 c2 (e1.trans e2) (st2.val rfl)⟩
/-! ### x op= e -/
end
end Sm

set_option Elab.async false
set_option linter.all false
set_option maxRecDepth 100000
set_option maxHeartbeats 4000000
namespace Sm
open PySem PySem.Spec PyProof.Rows L2
theorem kt {α : Type} {M : Model} {A : Around} {t : Sem α} {Q Q' : α → Shared → Prop} {E : Value → Shared → Prop} {s : Shared} (hn : 1 ≤ s.toks) (h : wpAny M A t Q' E s) (hQ : ∀ a s', Q' a s' → 1 ≤ s'.toks → Q a s') : wpAny M A t Q E s :=
  wpAny_mono (PySem.wpAny_toks_of hn h) (fun a s' q => hQ a s' q.2 q.1) fun _ _ z => z.2
theorem ktF {α : Type} {M : Model} {A : Around} {t : Sem α} {Q Q' : α → Shared → Prop} {E : Value → Shared → Prop} {s : Shared} (hn : 1 ≤ s.toks) (h : wpAny M A t Q' (fun _ _ => False) s) (hQ : ∀ a s', Q' a s' → 1 ≤ s'.toks → Q a s') : wpAny M A t Q E s :=
  wpAny_mono (PySem.wpAny_toks_of hn h) (fun a s' q => hQ a s' q.2 q.1) fun _ _ z => z.2.elim
section
variable {X : Cx}
theorem lcT_core {pins : List (Addr × Obj)} {s : Shared} {σ : L2.St} {H : Hp} {Q : VK} {elt tg iter : Expr} {ifs : List Expr} {scope : Scope} {own : List (Str × Nat)} {pos pos' : Pos} {wi : TI} {g : TG} {tt : TT} {te : TE} {use : Option (Value → Sem Unit)} {Qf : Value → Shared → Prop}
    (hc : X.calm = true) (hN : X.N.Nodup) (I : Inv X pins σ H s) (hi : PI X tg iter wi) (ok : BlkOk X.N X.env.scope scope own)
    (hg : ∀ (s : Shared) (H : Hp) (C : Addr) (cl : List (Str × Addr)) (fp : List Addr), PG (X.blk s H scope (compEnvC scope cl C X.env) fp) tg g) (ht : ∀ (s : Shared) (H : Hp) (C : Addr) (cl : List (Str × Addr)) (fp : List Addr), PTs (X.blk s H scope (compEnvC scope cl C X.env) fp) ifs tt)
    (k0 : 1 ≤ s.toks) (he : ∀ (s : Shared) (H : Hp) (C : Addr) (cl : List (Str × Addr)) (fp : List Addr), PET (X.blk s H scope (compEnvC scope cl C X.env) fp) elt te) (hs : ∀ x, foldedSetIterable iter X.env x = pure x)
    (h : tLc wi g tt te (own.map (·.2)) σ H Q)
    (hRR : ∀ D C s' m H', Inv X pins σ H' s' → Q (.ref D) H' → s'.heap.Ns C m → FpOk X pins H' C → compPost (model X.prog X.w) X.A X.xe use Qf (.ref D) C (.ok .next) s') :
    wpAny (model X.prog X.w) X.A (comprehension (.ListComp elt [⟨tg, iter, ifs, 0⟩] scope pos) scope X.env pos' (newList []) false (eval iter X.env) use) Qf X.xe s := by
  have hfree : ∀ y ∈ scope.names, y.2 = .free → ∃ c, X.env.cells.lookup y.1 = some c := fun y hy e => by
    rcases ok.free y hy e with k | k
    · exact I.ok.has _ (.inl k)
    · exact I.ok.has _ (.inr k)
  refine wpAny_comprehension_free (use := use) rfl hs (closure_ok hfree) ok.kind (fun y hy e => by rw [ok.uniq y hy, e])
    (kt k0 (hi.run pins s σ H _ I h) fun xv s1 hx k1 => kt k1 hx fun itv s2 h2 k2 => ?_)
  obtain ⟨it, fp, tn, J, H2, e, I2, T, st2, f2, q⟩ := h2
  subst e
  refine wpAny_newObj_type (newEnv_comp ?_) (by show 0 ≤ sizeLine; decide)
  generalize hD : s2.heap.objs.size = D
  have hDn : H2 D = none := I2.hok.fresh (Nat.le_of_eq hD)
  obtain ⟨W, ⟨m0, w0⟩, turn⟩ := q D hDn
  -- the new list
  generalize hs3 : ({ s2 with heap := s2.heap.push { cls := .type "list", data := .seq ([] : List Value).toArray } } : Shared) = s3
  have I3 : Inv X pins σ (upd H2 D (.lst [])) s3 := by
    rw [← hs3]
    refine I2.laid (t' := s2.toks) (fun b o e => Heap.get?_push_of_some _ e) (Nat.le_of_eq hD) ⟨Nat.zero_le _, [], 0, .nil, ?_⟩
    rw [← hD]
    exact Heap.get?_push_size _ rfl
  have h3 : s3.heap = s2.heap.push { cls := .type "list", data := .seq ([] : List Value).toArray } := by rw [← hs3]
  have sz : ∀ b ∈ fp, b < s2.heap.objs.size := fun b hb => by
    obtain ⟨o, e, _⟩ := T.obj _ _ st2 b hb
    exact Heap.lt_size e
  have f3 : ∀ b ∈ fp, FpOk X pins (upd H2 D (.lst [])) b ∧ b < s3.heap.objs.size := fun b hb => by
    have hlt := sz b hb
    refine ⟨⟨?_, (f2 b hb).2⟩, by rw [h3, Heap.size_push]; exact Nat.lt_succ_of_lt hlt⟩
    rw [upd_ne (by rw [← hD]; exact Nat.ne_of_lt hlt)]
    exact (f2 b hb).1
  have st3 : tn 0 s3.heap := T.keep _ _ _ st2 fun b _ o e => by rw [h3]; exact Heap.get?_push_of_some _ e
  have I4 := block_start I3 ok hN f3
  have pg := hg s3 (upd H2 D (.lst [])) s3.heap.objs.size (cellsFrom (s3.heap.objs.size + 1) scope.names (cloFrom X.env.cells scope.names [])) fp
  have pt := ht s3 (upd H2 D (.lst [])) s3.heap.objs.size (cellsFrom (s3.heap.objs.size + 1) scope.names (cloFrom X.env.cells scope.names [])) fp
  have pe := he s3 (upd H2 D (.lst [])) s3.heap.objs.size (cellsFrom (s3.heap.objs.size + 1) scope.names (cloFrom X.env.cells scope.names [])) fp
  show codeAny _ _ (.compStart (.ListComp elt [⟨tg, iter, ifs, 0⟩] scope pos) 0 (.ref it) (.ref D) (compEnvC scope (cellsFrom (s3.heap.objs.size + 1) scope.names (cloFrom X.env.cells scope.names [])) s3.heap.objs.size X.env)) (compPost (model X.prog X.w) X.A X.xe use Qf (.ref D) s3.heap.objs.size) { s3 with heap := pushCells (s3.heap.push { cls := .type "dict", data := .dict #[] }) scope.names }
  have nfp : ∀ b ∈ fp, (upd H2 D (.lst [])) b = none := fun b hb => (f3 b hb).1.1
  generalize hce : compEnvC scope (cellsFrom (s3.heap.objs.size + 1) scope.names (cloFrom X.env.cells scope.names [])) s3.heap.objs.size X.env = ce at I4 pg pt pe ⊢
  have cL : ce.locals = s3.heap.objs.size := by subst hce; rfl
  generalize hH3 : upd H2 D (.lst []) = H3 at I3 I4 pg pt pe w0 nfp f3
  have k4 : 1 ≤ s3.toks := by rw [← hs3]; exact k2
  generalize hs4 : ({ s3 with heap := pushCells (s3.heap.push { cls := .type "dict", data := .dict #[] }) scope.names } : Shared) = s4 at I4 ⊢
  have k4 : 1 ≤ s4.toks := by rw [← hs4]; exact k4
  have st4 : tn 0 s4.heap := T.keep _ _ _ st3 fun b _ o e => by rw [← hs4]; exact pushCells_keeps _ _ _ _ (Heap.get?_push_of_some _ e)
  have stat : ∀ {σ' : L2.St} {H' : Hp} {s' : Shared}, Inv (X.blk s3 H3 scope ce fp) [] σ' H' s' → (∀ b ∈ fp, H' b = none) → ∀ b ∈ fp, FpOk (X.blk s3 H3 scope ce fp) [] H' b := fun {σ' H' s'} I' hn b hb =>
    ⟨hn b hb, (I'.ok.exf b hb).1, I'.ok.exfs b hb, .inl hb, fun x c e => (I'.ok.exf b hb).2 x c e, fun p hp => absurd (show p ∈ ([] : List (Addr × Obj)) ++ [] from hp) (by simp)⟩
  have loop : codeAny (model X.prog X.w) X.A (.compLoop (.ListComp elt [⟨tg, iter, ifs, 0⟩] scope pos) 0 (.ref it) (.ref D) ce) (compPost (model X.prog X.w) X.A X.xe use Qf (.ref D) s3.heap.objs.size) s4 := by
    refine compLoop_any (fun n s' => 1 ≤ s'.toks ∧ ∃ i H', Inv (X.blk s3 H3 scope ce fp) [] (wipe σ (own.map (·.2))) H' s' ∧ tn i s'.heap ∧ (∀ b ∈ fp, H' b = none) ∧ W i n H') ?_ m0 ⟨k4, 0, H3, I4, st4, nfp, w0⟩
    rintro n s5 ⟨k5, i, H5, I5, st5, n5, w5⟩
    rcases turn i n H5 w5 with ⟨stop, qq⟩ | ⟨go, Nx, hNx, step⟩
    · have td := T.done (X.blk s3 H3 scope ce fp) rfl rfl rfl hc i [] s5 _ H5 (fun _ _ => False) I5 (stat I5 n5) st5 stop
      refine thnF td fun r s6 ⟨hr, I6⟩ => ?_
      subst hr
      -- back in the def's context
      have I7 : Inv X pins σ H5 s6 := I3.call' (ch := fp) I6.os I6.base I6.hok I6.bare fun b hb => ⟨(f3 b hb).1.2.2.2.1, (f3 b hb).1.2.1, (f3 b hb).1.2.2.2.2.1, (f3 b hb).1.2.2.2.2.2⟩
      have nC : H5 s3.heap.objs.size = none := by
        have z : H5 ce.locals = none := I6.free
        rw [cL] at z
        exact z
      obtain ⟨m, hn, _⟩ := I6.loc
      have hn : s6.heap.Ns ce.locals m := hn
      rw [cL] at hn
      exact hRR D s3.heap.objs.size s6 m H5 I7 qq hn (I3.fpOk (Nat.le_refl _) nC)
    · have ti := T.item (X.blk s3 H3 scope ce fp) rfl rfl rfl hc i [] s5 _ H5 (fun _ _ => False) I5 (stat I5 n5) st5 go
      refine ktF k5 ti fun r s6 ⟨u, hr, h6⟩ k6 => ?_
      subst hr
      refine ktF k6 h6 fun _ s7 ⟨x, H7, I7, r7, y7, st7, n7⟩ k7 => ?_
      have I7' := I7.pinned (stat I7 n7) (T.obj _ _ st7)
      refine ktF k7 (pg.run _ s7 _ H7 x u _ I7' r7 (step x H7 y7)) fun _ s8 ⟨σ8, H8, I8, hw8, q8⟩ k8 => ?_
      refine ktF k8 (pt.run _ s8 σ8 H8 _ I8 q8) fun b s9 ⟨H9, I9, q9⟩ k9 => ?_
      -- the turn's end
      have fin : ∀ {s' : Shared} {H' : Hp}, 1 ≤ s'.toks → Inv (X.blk s3 H3 scope ce fp) ([] ++ pinsAt fp s7.heap) σ8 H' s' → Nx H' → ∃ m, m < n ∧ 1 ≤ s'.toks ∧ ∃ i H', Inv (X.blk s3 H3 scope ce fp) [] (wipe σ (own.map (·.2))) H' s' ∧ tn i s'.heap ∧ (∀ b ∈ fp, H' b = none) ∧ W i m H' := fun {s' H'} kk I' nx => by
        obtain ⟨m', hm, w'⟩ := hNx H' nx
        have pin' : ∀ b ∈ fp, ∀ o, s7.heap.get? b = some o → s'.heap.get? b = some o ∧ H' b = none := fun b hb o e =>
          let z := I'.pin (b, o) (List.mem_append_right _ (List.mem_append_right _ (mem_pinsAt hb e)))
          ⟨z.1, z.2.1⟩
        have hl : (wipe σ (own.map (·.2))).length = σ8.length := by rw [← hw8, wipe_length]
        refine ⟨m', hm, kk, i + 1, H', (I'.unpinned (pins := [])).weak hl (fun j v e => ?_), T.keep _ _ _ st7 fun b hb o e => (pin' b hb o e).1, fun b hb => ?_, w'⟩
        · rw [← hw8] at e
          exact (wipe_some e).1
        · obtain ⟨o, e, _⟩ := T.obj _ _ st7 b hb
          exact (pin' b hb o e).2
      cases b with
      | false =>
        simp only [Bool.false_eq_true, if_false] at q9 ⊢
        exact fin k9 I9 q9
      | true =>
        simp only [if_true] at q9 ⊢
        refine ktF k9 (pe _ s9 σ8 H9 _ k9 I9 q9) fun z s10 ⟨yv, H10, I10, r10, acc, hD10, hz10, nx⟩ k10 => ?_
        exact ktF k10 (app_ok (X := X.blk s3 H3 scope ce fp) (E := fun _ _ => False) I10 hD10 hz10 r10 (Q := fun _ s' => Inv (X.blk s3 H3 scope ce fp) ([] ++ pinsAt fp s7.heap) σ8 (upd H10 D (.lst (acc ++ [yv]))) s') fun s11 I11 => I11) fun _ s11 I11 k11 => fin k11 I11 nx
  exact codeAny_compStart_list loop (T.self X.A 0 _ _ _ st4 loop)
/-- a comprehension whose things want a token -/
theorem pet_lc {elt tg iter : Expr} {ifs : List Expr} {scope : Scope} {own : List (Str × Nat)} {pos : Pos} {wi : TI} {g : TG} {tt : TT} {te : TE} (hc : X.calm = true) (hN : X.N.Nodup) (hi : PI X tg iter wi) (ok : BlkOk X.N X.env.scope scope own)
    (hg : ∀ (s : Shared) (H : Hp) (C : Addr) (cl : List (Str × Addr)) (fp : List Addr), PG (X.blk s H scope (compEnvC scope cl C X.env) fp) tg g) (ht : ∀ (s : Shared) (H : Hp) (C : Addr) (cl : List (Str × Addr)) (fp : List Addr), PTs (X.blk s H scope (compEnvC scope cl C X.env) fp) ifs tt)
    (he : ∀ (s : Shared) (H : Hp) (C : Addr) (cl : List (Str × Addr)) (fp : List Addr), PET (X.blk s H scope (compEnvC scope cl C X.env) fp) elt te) (hs : ∀ x, foldedSetIterable iter X.env x = pure x) :
    PET X (.ListComp elt [⟨tg, iter, ifs, 0⟩] scope pos) (tLc wi g tt te (own.map (·.2))) := by
  intro pins s σ H Q k0 I h
  rw [eval_ListComp]
  refine lcT_core hc hN I hi ok hg ht k0 he hs h fun D C s' m H' I' q hn f => ⟨m, hn, fun h2 sb => ?_⟩
  obtain ⟨f0, f1, f2, f3, f4, f5⟩ := f
  exact ⟨.ref D, H', I'.turned (t' := s'.toks) (fun b o hb e => (sb.2 b hb).trans e) f0 f1 f3 f4 f5, rfl, q⟩
theorem pet_ty1 {x : Str} {T : String} {e : Expr} {t : TE} {r : List V → Hp → VK → Prop} {p pos : Pos} (hc : CallR X (.type T) r) (hg : Gl X x) (hm : X.mg x = none) (hv : bootBuiltins x = some (.type T)) (he : PET X e t) (hn : x ≠ "__name__") (hdb : (x == ("__debug__" : Str)) = false) (hs : starEach [e] X.env = [(false, eval e X.env)]) :
    PET X (.Call (.Name x p) [e] [] pos) (fun σ H Q => t σ H fun x H1 => r [x] H1 Q) := by
  intro pins s σ H Q k0 I h
  refine wpAny_Call_Name_kw (ld_blt I hg hm hv ?_ hn hdb)
  refine PyProof.Rows.callWith_type1 (PyProof.Rows.args_cons (kt k0 (he pins s σ H _ k0 I h) fun v s1 ⟨x, H1, I1, r1, q1⟩ _ => PyProof.Rows.args_nil ?_) hs) hs rfl
  exact hc pins s1 σ H1 [x] [v] Q I1 (.cons r1 .nil) q1
theorem PSsT.nox {st : List Stmt} {t : TS} (h : PSsT X.nox st t) : PSsT X st t := fun pins s σ H D k0 I hw =>
  wpAny_mono (h pins s σ H D k0 (I.wish _) hw) (fun f s' q => q.unwish) fun _ _ z => z.elim
end
/-! ### by readings -/
section
variable {P : Program} {w : World} {K : PySem.W.Frag} {mg : Str → Option Value} {base : Heap} {N : List Str} {sc : Scope} {fn : Str → Bool} {k : Nat}
def rdET (M : Fm P w K mg base N sc fn k) (e : Expr) : TE := fun σ H Q => ∃ t, (∀ i, PET (M.X i) e t) ∧ t σ H Q
def rdSsT (M : Fm P w K mg base N sc fn k) (st : List Stmt) : TS := fun D σ H => ∃ t, (∀ i, PSsT (M.X i) st t) ∧ t D σ H
variable {M : Fm P w K mg base N sc fn k}
theorem rdET_ok (i) {e} : PET (M.X i) e (rdET M e) := fun pins s σ H Q k0 I ⟨t, h, q⟩ => h i pins s σ H Q k0 I q
theorem rdSsT_ok (i) {e} : PSsT (M.X i) e (rdSsT M e) := fun pins s σ H D k0 I ⟨t, h, q⟩ => h i pins s σ H D k0 I q
variable {S : Type} {O : S → Res} {Γ : Asrt} {s : S} {α β γ ρ : Type} {ra : RP α} {rb : RP β} {rc : RP γ} {A : ρ → VA}
def XV {S ρ : Type} (te : TE) (O : S → Res) (Γ : Asrt) (s : S) (A : ρ → VA) (W : (ρ → S → Prop) → Prop) : Prop :=
  ∀ (HI : Hp) (C : ρ → S → Prop) (Q : VK) (σ : L2.St) (F H : Hp), Stt O HI Γ s σ F H →
    (∀ x s' v F' H', C x s' → Same F F' → SttV O HI Γ s' σ F' H' (A x) v → Q v H') → W C → te σ H Q
abbrev XET (M : Fm P w K mg base N sc fn k) {S ρ : Type} (O : S → Res) (Γ : Asrt) (s : S) (e : Expr) (A : ρ → VA) (W : (ρ → S → Prop) → Prop) : Prop := XV (rdET M e) O Γ s A W
theorem xet_of {e : Expr} {W : (ρ → S → Prop) → Prop} (h : XE M O Γ s e A W) : XET M O Γ s e A W := fun HI C Q σ F H st hq hc => ⟨rdE M e, fun i => CwR.PET.of (rdE_ok i), h HI C Q σ F H st hq hc⟩
theorem xet_fr {e : Expr} {W : (List α → S → Prop) → Prop} (h : XET M O Γ s e (ol ra) W) : XET M O Γ s e (fz (pL K ra)) W := by
  intro HI C Q σ F H st hq hc
  refine h HI _ Q σ F H st (fun x s' v F' H' c e sv => ?_) hc
  obtain ⟨hv, h1, h2, ⟨a, vs, ev, eh, al⟩, b, cc, d⟩ := sv
  subst ev eh
  have dn := d.freeze
  have e2 : Same F' (upd F' a (.lst vs)) := same_upd (d.own _ List.mem_cons_self).2.1
  refine hq x s' _ _ H' c (e.trans e2) ⟨[], h1, h2, ⟨rfl, a, vs, rfl, .inl (.inl upd_same), al.imp fun _ _ q => ra.mono e2 q⟩, b.mono e2, (O s').mono e2 cc, dn⟩
/-- a sign in the place of another -/
def repl1 (a b : Nat) (x : Text) : Text := x.map fun c => if c = a then b else c
theorem replL_one (a b : Nat) : ∀ x : List Nat, PySem.StrLaws.replL [a] [b] x = repl1 a b x
  | [] => PySem.StrLaws.replL_nil
  | c :: x => by
    have ih := replL_one a b x
    by_cases e : c = a
    · rw [PySem.StrLaws.replL_hit (by simp) (by simp [e])]
      show b :: PySem.StrLaws.replL [a] [b] x = (if c = a then b else c) :: repl1 a b x
      rw [ih, if_pos e]
    · rw [PySem.StrLaws.replL_miss (by simp [e])]
      show c :: PySem.StrLaws.replL [a] [b] x = (if c = a then b else c) :: repl1 a b x
      rw [ih, if_neg e]
theorem replace_one1 (x : Text) (a b : Nat) : Txt.replace ⟨x.toArray⟩ ⟨#[a]⟩ ⟨#[b]⟩ = ⟨(repl1 a b x).toArray⟩ := by
  have h := PySem.StrLaws.replace_list (x := ⟨x.toArray⟩) (y := ⟨#[a]⟩) (z := ⟨#[b]⟩) (Nat.le_refl 1)
  have h : (Txt.replace ⟨x.toArray⟩ ⟨#[a]⟩ ⟨#[b]⟩).cps.toList = repl1 a b x := by rw [← replL_one]; simpa using h
  generalize Txt.replace ⟨x.toArray⟩ ⟨#[a]⟩ ⟨#[b]⟩ = r at h ⊢
  obtain ⟨c⟩ := r
  congr 1
  rw [← h]
theorem repl1_ok {a b : Nat} {x : Text} (hb : b < 1114112) (h : okT x) : okT (repl1 a b x) := fun c hc => by
  obtain ⟨d, hd, rfl⟩ := List.mem_map.mp hc
  split
  · exact hb
  · exact h d hd
theorem xet_repl {e : Expr} {y z : Str} {a b j1 j2 : Nat} {c0 c1 ap pos : Pos} {wa : (Text → S → Prop) → Prop} (he : XE M O Γ s e (fz pT) wa) (ea : y = ⟨#[a]⟩ := by decide +kernel) (eb : z = ⟨#[b]⟩ := by decide +kernel) (hb : b < 1114112 := by decide) (hyz : (y == z) = false := by decide +kernel)
    (hst : ∀ env, starEach [.Constant (.str y) j1 c0, .Constant (.str z) j2 c1] env = [(false, eval (.Constant (.str y) j1 c0) env), (false, eval (.Constant (.str z) j2 c1) env)] := by intro _; rfl)
    (hbase : ∀ env, attributeBase e "replace" env (eval e env) = eval e env := by intro _; rfl) (hline : (ap.endLine == pos.line) = true := by rfl) :
    XET M O Γ s (.Call (.Attribute e "replace" ap) [.Constant (.str y) j1 c0, .Constant (.str z) j2 c1] [] pos) (fz pT) (fun k => wa fun x s1 => x.length ≤ 1000000 ∧ k (repl1 a b x) s1) := by
  intro HI C Q σ F H st hq hc
  refine ⟨_, fun i => CwR.pet_replC (rdE_ok i) hyz (hst _) (hbase _) hline, he HI _ _ σ F H st (fun x s1 u F1 H1 c1 e1 sv1 => ?_) hc⟩
  obtain ⟨⟨rfl, ok⟩, st1⟩ := sv1.fz
  refine ⟨⟨x.toArray⟩, rfl, ?_, ?_⟩
  · rw [eb]
    show x.toArray.size + (x.toArray.size + 1) * 1 ≤ 16777216
    rw [List.size_toArray]; omega
  · rw [ea, eb, replace_one1]
    exact hq _ s1 _ F1 H1 c1.2 e1 (st1.val ⟨rfl, repl1_ok hb ok⟩)
theorem xet_tupL {e : Expr} {p pos : Pos} {wa : (List α → S → Prop) → Prop} (hm : mg "tuple" = none) (ha : XET M O Γ s e (fz (pL K ra)) wa) (hg : GlN sc "tuple" := by rfl) (hs : NoStar e := by intro _ _; rfl) :
    XET M O Γ s (.Call (.Name "tuple" p) [e] [] pos) (fz (pU K ra)) wa := by
  intro HI C Q σ F H st hq hc
  refine ⟨_, fun i => pet_ty1 (by have h := call_tuple_of (X := M.X i); rw [M.kf i] at h; exact h) (Gl.of hg i) (M.none hm i) b_tuple (rdET_ok i) (by decide) (by decide) (hs _ _), ha HI _ _ σ F H st (fun x s1 u F1 H1 c1 e1 sv1 => ?_) hc⟩
  obtain ⟨rx, st1⟩ := sv1.fz
  exact o_tupL O HI Γ s1 σ F1 H1 x u (fun z => C z s1) _ st1 rx (fun z v' F2 H2 c2 e2 sv => hq z s1 v' F2 H2 c2 (e1.trans e2) sv) c1
theorem lc_runV {te : TE} {tg iter : Expr} {ifs : List Expr} {scope : Scope} {vs L : List Nat} {g : α → Asrt → Asrt} {wi : (List α → S → Prop) → Prop} {wt : α → S → (Bool → S → Prop) → Prop} {we : α → S → (β → S → Prop) → Prop}
    (hi : XI M O Γ s tg iter ra wi) (hg : XGt (M.blk scope) tg ra g L) (hL : ∀ i ∈ L, i ∈ vs) (hΓ : Γ.length = N.length)
    (ht : ∀ x s', XTs (M.blk scope) O (g x (wipeA Γ vs)) s' ifs (wt x s')) (he : ∀ x s', XV te O (g x (wipeA Γ vs)) s' (fz rb) (we x s'))
    {HI : Hp} {C : List β → S → Prop} {Q : VK} {σ : L2.St} {F H : Hp} (st : Stt O HI Γ s σ F H) (hq : ∀ ys s' v F' H', C ys s' → Same F F' → SttV O HI Γ s' σ F' H' (ol rb ys) v → Q v H')
    (hc : wi fun xs s1 => xs.length ≤ sizeLine ∧ compW (fun x s k => wt x s fun b s1 => if b = true then we x s1 fun y s2 => k (some y) s2 else k none s1) C xs s1 []) :
    tLc (rdI M tg iter) (rdG (M.blk scope) tg) (rdTs (M.blk scope) ifs) te vs σ H Q := by
  refine hi HI _ _ σ F H st (fun xs s1 J F1 H1 c1 e1 st1 jk => ?_) hc
  intro D hD
  obtain ⟨hz, c1⟩ := c1
  let B := (fun (x : α) (s : S) (k : Option β → S → Prop) => wt x s fun b s1 => if b = true then we x s1 fun y s2 => k (some y) s2 else k none s1)
  let I : Nat → Hp → Prop := fun i H => ∃ (s' : S) (F' : Hp) (acc : List β) (accv : List V) (h1 h2 : HL), Same F1 F' ∧ All2 (fun x v => rb.r x v F') acc accv ∧ acc.length ≤ i ∧ Sat Γ σ F' h1 ∧ (O s').p F' h2 ∧ Ok F' ((D, .lst accv) :: (h1 ++ h2)) HI H ∧ compW B C (xs.drop i) s' acc
  refine ⟨fun i m H => m = xs.length - i ∧ i ≤ xs.length ∧ I i H, ⟨xs.length, by simp, Nat.zero_le _, ?_⟩, ?_⟩
  · obtain ⟨h1, h2, a, b, ok⟩ := st1
    exact ⟨s1, F1, [], [], h1, h2, Same.refl _, trivial, Nat.le_refl _, a, b, ok.newO hD, c1⟩
  · rintro i m H2 ⟨rfl, hi', s', F', acc, accv, h1, h2, e2, al, hl, sa, so, ok, cw⟩
    obtain ⟨j1, j2⟩ := jk F' e2 HI _ H2 ok
    by_cases hlt : i < xs.length
    · have hx : xs[i]? = some xs[i] := List.getElem?_eq_getElem hlt
      obtain ⟨jgo, jy⟩ := j1 i _ hx
      refine .inr ⟨jgo, I (i + 1), fun H' p' => ⟨xs.length - (i + 1), by omega, rfl, hlt, p'⟩, fun v H3 hy => ?_⟩
      obtain ⟨F3, e3, ok3, rv⟩ := jy v H3 hy
      rw [List.drop_eq_getElem_cons hlt] at cw
      obtain ⟨g1, g2, pm, sw, back⟩ := (sa.mono e3).takes vs
      have okp : Ok F3 ((g1 ++ h2) ++ ((D, .lst accv) :: g2)) HI H3 := ok3.perm (by
        refine (List.Perm.cons _ ?_).trans List.perm_middle.symm
        refine (pm.append_right h2).trans ?_
        rw [List.append_assoc, List.append_assoc]
        exact List.Perm.append_left g1 List.perm_append_comm)
      have stB : Stt O (Sm.hide HI ((D, .lst accv) :: g2)) (wipeA Γ vs) s' (L2.wipe σ vs) F3 H3 := ⟨g1, h2, sw, (O s').mono e3 so, okp.hide⟩
      refine hg.run O _ _ s' _ F3 H3 xs[i] v _ (by rw [wipeA_length]; exact hΓ) stB rv fun σ4 l4 o4 st4 => ?_
      have ew : L2.wipe σ4 vs = L2.wipe σ vs := by
        refine wipe_eq (l4.trans (wipe_length _ _)) fun j hj => ?_
        rw [o4 j fun z => hj (hL j z), wipe_out hj]
      have eg : ∀ x, wipeA (g x (wipeA Γ vs)) vs = wipeA Γ vs := fun x => by
        refine wipeA_eq (by rw [hg.len, wipeA_length]) fun j hj => ?_
        rw [hg.out _ _ _ fun z => hj (hL j z), wipeA_out hj]
      -- behind the turn: the slots as they stood
      have home : ∀ {s5 : S} {F5 H5 : Hp}, Same F3 F5 → Stt O (Sm.hide HI ((D, .lst accv) :: g2)) (g xs[i] (wipeA Γ vs)) s5 σ4 F5 H5 → ∃ k1 k2, Sat Γ σ F5 k1 ∧ (O s5).p F5 k2 ∧ Ok F5 ((D, .lst accv) :: (k1 ++ k2)) HI H5 := fun {s5 F5 H5} e5 ⟨q1, q2, a1, a2, a3⟩ => by
        obtain ⟨q3, sub, a4⟩ := Sat.wipe a1 vs
        rw [eg, ew] at a4
        obtain ⟨h0, p0, a5⟩ := back F5 q3 e5 a4
        refine ⟨h0, q2, a5, a2, ?_⟩
        have ok6 := okp.unhide (a3.sub (List.Sublist.append_right sub q2))
        refine ok6.perm ?_
        refine List.perm_middle.trans (List.Perm.cons _ ?_)
        refine List.Perm.trans ?_ (p0.symm.append_right q2)
        rw [List.append_assoc, List.append_assoc]
        exact List.Perm.append_left q3 List.perm_append_comm
      refine ⟨ew, ht xs[i] s' _ _ _ σ4 F3 H3 st4 (fun b s5 F5 H5 c5 e5 st5 => ?_) cw⟩
      cases b with
      | false =>
        refine iteF ?_
        have c5 := (by simpa using c5 : compW B C (xs.drop (i + 1)) s5 acc)
        obtain ⟨k1, k2, a1, a2, a3⟩ := home e5 st5
        exact ⟨s5, F5, acc, accv, k1, k2, e2.trans (e3.trans e5), al.imp fun _ _ q => rb.mono (e3.trans e5) q, by omega, a1, a2, a3, c5⟩
      | true =>
        refine iteT ?_
        have c5 := (by simpa using c5 : we xs[i] s5 fun y s2 => compW B C (xs.drop (i + 1)) s2 (acc ++ [y]))
        refine he xs[i] s5 _ _ _ σ4 F5 H5 st5 (fun y s6 u F6 H6 c6 e6 sv6 => ?_) c5
        obtain ⟨ru, st6⟩ := sv6.fz
        obtain ⟨k1, k2, a1, a2, a3⟩ := home (e5.trans e6) st6
        have e7 : Same F' F6 := e3.trans (e5.trans e6)
        refine ⟨accv, (a3.own _ List.mem_cons_self).1, ?_, ?_⟩
        · rw [← al.length]; omega
        · exact ⟨s6, F6, acc ++ [y], accv ++ [u], k1, k2, e2.trans e7, (al.imp fun _ _ q => rb.mono e7 q).append ⟨ru, trivial⟩, by rw [List.length_append, List.length_singleton]; omega, a1, a2, a3.set, c6⟩
    · have e : i = xs.length := by omega
      subst e
      rw [List.drop_length] at cw
      refine .inl ⟨j2, hq acc s' _ F' H2 cw (e1.trans e2) ⟨[(D, .lst accv)], h1, h2, ⟨D, accv, rfl, rfl, al⟩, sa, so, ok⟩⟩
theorem xet_lc {tg iter elt : Expr} {scope : Scope} {pos : Pos} {L : List Nat} {g : α → Asrt → Asrt} {wi : (List α → S → Prop) → Prop} {we : α → S → (β → S → Prop) → Prop} (own : List (Str × Nat)) (hi : XI M O Γ s tg iter ra wi) (hg : XGt (M.blk scope) tg ra g L) (he : ∀ x s', XET (M.blk scope) O (g x (wipeA Γ (own.map (·.2)))) s' elt (fz rb) (we x s'))
    (ok : blkC N sc scope own = true := by decide +kernel) (hL : ∀ i ∈ L, i ∈ own.map (·.2) := by decide) (hΓ : Γ.length = N.length := by rfl) (hs : ∀ env x, foldedSetIterable iter env x = pure x := by intro _ _; rfl) :
    XET M O Γ s (.ListComp elt [⟨tg, iter, [], 0⟩] scope pos) (ol rb) (fun k => wi fun xs s1 => xs.length ≤ sizeLine ∧ compW (fun x s k => we x s fun y s2 => k (some y) s2) (fun ys s2 => k ys s2) xs s1 []) := by
  intro HI C Q σ F H st hq hc
  refine ⟨_, fun j => pet_lc (own := own) (M.calm j) (by rw [M.nn]; exact M.nd) (rdI_ok j) (by rw [M.nn, M.scp]; exact blkOk_by ok)
    (fun s0 H0 C0 cl fp => rdG_ok (M := M.blk scope) (j, s0, H0, C0, cl, fp)) (fun s0 H0 C0 cl fp => rdTs_ok (M := M.blk scope) (j, s0, H0, C0, cl, fp)) (fun s0 H0 C0 cl fp => rdET_ok (M := M.blk scope) (j, s0, H0, C0, cl, fp)) (hs _), ?_⟩
  exact lc_runV (C := C) hi hg hL hΓ (fun x s' => xts_nil) he st hq (by simpa using hc)
/-! ### blocks -/
def XSsT (M : Fm P w K mg base N sc fn k) (O : S → Res) (HI F0 : Hp) (Γ : Asrt) (s : S) (sts : List Stmt) (D : Ends) (Pf : Prop) : Prop :=
  ∀ (σ : L2.St) (F H : Hp), Same F0 F → Stt O HI Γ s σ F H → Pf → rdSsT M sts D σ H
theorem xst_of {HI F0 : Hp} {sts : List Stmt} {D : Ends} {Pf : Prop} (h : XSs M O HI F0 Γ s sts D Pf) : XSsT M O HI F0 Γ s sts D Pf := fun σ F H e0 st hp => ⟨rdSs M sts, fun i => PSsT.of (rdSs_ok i), h σ F H e0 st hp⟩
theorem XSsT.conv {HI F0 : Hp} {sts : List Stmt} {D : Ends} {Pf Pf' : Prop} (h : XSsT M O HI F0 Γ s sts D Pf') (e : Pf → Pf') : XSsT M O HI F0 Γ s sts D Pf := fun σ F H e0 st hp => h σ F H e0 st (e hp)
theorem xst_ret {HI F00 F0 : Hp} {e : Expr} {pos : Pos} {W : (ρ → S → Prop) → Prop} {R : ρ → S → Prop} {nx bk ct} (hF : Same F00 F0) (he : XET M O Γ s e A W) : XSsT M O HI F0 Γ s [.Return (some e) pos] { nx := nx, rt := rtJ O HI F00 A R, bk := bk, ct := ct } (W R) := by
  intro σ F H e0 st hp
  refine ⟨_, fun i => CwR.psst_one (CwR.pst_ret (rdET_ok i)), he HI R _ σ F H st (fun x s' v F' H' c e1 sv => ?_) hp⟩
  exact ⟨x, s', F', c, hF.trans (e0.trans e1), sv.bare⟩
theorem seqJT {st : Stmt} {rest : List Stmt} {D : Ends} {σ : L2.St} {H : Hp} {R : L2.St → Hp → Prop} (hR : ∀ σ' H', R σ' H' → rdSsT M rest D σ' H') (h : rdS M st { nx := R, rt := D.rt, bk := D.bk, ct := D.ct } σ H) : rdSsT M (st :: rest) D σ H := by
  refine ⟨tSeq (rdS M st) (fun D' σ' H' => R σ' H' ∧ D' = D), fun i => psst_cons (PST.of (rdS_ok i)) (fun pins s σ H D' k0 I ⟨q, e⟩ => by subst e; exact rdSsT_ok i pins s σ H _ k0 I (hR _ _ q)), ?_⟩
  have e : (fun σ' H' => R σ' H' ∧ D = D) = R := funext fun _ => funext fun _ => propext (and_iff_left rfl)
  show rdS M st { nx := fun σ' H' => R σ' H' ∧ D = D, rt := D.rt, bk := D.bk, ct := D.ct } σ H
  rw [e]; exact h
/-- a statement of which the plain rule stands: behind it a block that wants a token -/
theorem xst_set {HI F0 : Hp} {D : Ends} {e : Expr} {x : Str} {p1 pos : Pos} {rest : List Stmt} {W : (ρ → S → Prop) → Prop} {Pk : ρ → S → Prop} (i : Nat) (he : XE M O Γ s e A W) (hk : ∀ y s', XSsT M O HI F0 (Γ.set i (some (A y))) s' rest D (Pk y s'))
    (hN : N[i]? = some x := by rfl) (hx : Loc sc x := by first | exact Or.inl rfl | exact Or.inr rfl) (hf : fn x = true ∨ sc.names.lookup x = some .local := by first | exact Or.inl rfl | exact Or.inr rfl) (hΓ : Γ.length = N.length := by rfl)
    (hs : ∀ j, swapsWithSole [.Name x p1] e pos.line (M.X j).env = pure false := by intro _; first | rfl | exact sw_cell (by rw [Fm.scp]; decide +kernel)) (hw : ∀ j, swappedStores [.Name x p1] e (M.X j).env = pure none := by intro _; rfl) (h1 : ∀ env, (assignEach [.Name x p1] env).map (·.2) = [assign (.Name x p1) env] := by intro _; rfl) :
    XSsT M O HI F0 Γ s (.Assign [.Name x p1] e pos :: rest) D (W Pk) := by
  intro σ F H e0 st hp
  have hi : i < N.length := (List.getElem?_eq_some_iff.mp hN).1
  refine ⟨_, fun j => psst_cons (PST.of (ps_asg (g := gName i) (rdE_ok j) (pg_name (by rw [M.nn]; exact M.nd) (by rw [M.nn]; exact hN) (by rw [M.scp]; exact hx) (by rw [M.scp]; exact hf.imp (M.fnl j x) fun q => q)) (hs j) (hw j) (h1 _))) (rdSsT_ok j), he HI Pk _ σ F H st (fun y s' v F' H' c e1 sv => ?_) hp⟩
  exact hk y s' _ F' H' (e0.trans e1) (Stt.put sv (by rw [hΓ]; exact hi)) c
theorem xst_setLc0 {HI F0 : Hp} {D : Ends} {y : Str} {py pos pos' : Pos} {rest : List Stmt} {tg iter elt : Expr} {scope : Scope} {L : List Nat} {g : α → Asrt → Asrt} {wi : (List α → S → Prop) → Prop} {we : α → S → (β → S → Prop) → Prop} {Pk : List β → S → Prop}
    (i : Nat) (own : List (Str × Nat)) (hi : XI M O Γ s tg iter ra wi) (hg : XGt (M.blk scope) tg ra g L) (he : ∀ x s', XE (M.blk scope) O (g x (wipeA Γ (own.map (·.2)))) s' elt (fz rb) (we x s'))
    (hk : ∀ z s', XSsT M O HI F0 (Γ.set i (some (ol rb z))) s' rest D (Pk z s'))
    (hN : N[i]? = some y := by rfl) (hx : sc.names.lookup y = some .local := by rfl) (ok : blkC N sc scope own = true := by decide +kernel) (hL : ∀ i ∈ L, i ∈ own.map (·.2) := by decide) (hΓ : Γ.length = N.length := by rfl) (hs : ∀ env x, foldedSetIterable iter env x = pure x := by intro _ _; rfl)
    (hl : (py.line == pos.line) = true := by rfl) (ha : (scope.names.any fun (n, k) => n == y && (k == .local || k == .cell)) = false := by decide +kernel) (hkd : sc.kind = .function := by rfl) :
    XSsT M O HI F0 Γ s (.Assign [.Name y py] (.ListComp elt [⟨tg, iter, [], 0⟩] scope pos) pos' :: rest) D (wi fun xs s1 => xs.length ≤ sizeLine ∧ compW (fun x s k => we x s fun y s2 => k (some y) s2) Pk xs s1 []) := by
  intro σ F H e0 st hp
  have hiN : i < N.length := (List.getElem?_eq_some_iff.mp hN).1
  refine ⟨_, fun j => psst_cons (PST.of (ps_setLc (i := i) (own := own) (M.calm j) (by rw [M.nn]; exact M.nd) (by rw [M.nn]; exact hN) (by rw [M.scp]; exact hx) (sw_true (by rw [M.scp]; exact hkd) (by rw [M.scp]; exact hx) hl ha) (rdI_ok j) (by rw [M.nn, M.scp]; exact blkOk_by ok)
    (fun s0 H0 C0 cl fp => rdG_ok (M := M.blk scope) (j, s0, H0, C0, cl, fp)) (fun s0 H0 C0 cl fp => rdTs_ok (M := M.blk scope) (j, s0, H0, C0, cl, fp)) (fun s0 H0 C0 cl fp => rdE_ok (M := M.blk scope) (j, s0, H0, C0, cl, fp)) (hs _))) (rdSsT_ok j), ?_⟩
  have q : tLc (rdI M tg iter) (rdG (M.blk scope) tg) (rdTs (M.blk scope) []) (rdE (M.blk scope) elt) (own.map (·.2)) σ H (fun v H' => rdSsT M rest D (σ.set i (some v)) H') :=
    lc_runV (C := Pk) hi hg hL hΓ (fun x s' => xts_nil) he st (fun ys s' v F' H' c e1 sv => hk ys s' _ F' H' (e0.trans e1) (Stt.put sv (by rw [hΓ]; exact hiN)) c) (by simpa using hp)
  exact q
theorem xst_freeze {HI F0 : Hp} {D : Ends} {sts : List Stmt} {Pf : Prop} {xs : List α} (i : Nat) (e : Γ[i]? = some (some (ol ra xs))) (h : XSsT M O HI F0 (Γ.set i (some (fz (pL K ra) xs))) s sts D Pf) : XSsT M O HI F0 Γ s sts D Pf := by
  intro σ F H e0 st hp
  obtain ⟨F', e1, st'⟩ := st.freeze (K := K) e
  exact h σ F' H (e0.trans e1) st' hp
theorem xst_while {HI F0 : Hp} {nx rt bk ct} {test : Expr} {body rest : List Stmt} {pos : Pos} {T : γ → S → (Bool → S → Prop) → Prop} {B : γ → S → (γ → S → Prop) → (γ → S → Prop) → Prop} {Pk : γ → S → Prop}
    (Γi : γ → Asrt) (c0 : γ) (h0 : Le Γ (Γi c0)) (ht : ∀ c s', XT M O (Γi c) s' test (T c s'))
    (hb : ∀ F1, Same F0 F1 → ∀ c kn kb s', XSs M O HI F1 (Γi c) s' body { nx := nxJ O HI F1 Γi kn, rt := rt, bk := nxJ O HI F0 Γi kb, ct := nxJ O HI F1 Γi kn } (B c s' kn kb))
    (hk : ∀ c s', XSsT M O HI F0 (Γi c) s' rest { nx := nx, rt := rt, bk := bk, ct := ct } (Pk c s')) :
    XSsT M O HI F0 Γ s (.While test body [] pos :: rest) { nx := nx, rt := rt, bk := bk, ct := ct } (whB T B Pk c0 s) := by
  intro σ F H e0 st hp
  refine seqJT (R := nxJ O HI F0 Γi Pk) (fun σ' H' ⟨z, s', F', p, e, st'⟩ => hk z s' σ' F' H' e st' p) ?_
  obtain ⟨n0, hp⟩ := hp
  refine ⟨_, fun j => ps_while (M.pass j) (rdT_ok j) (rdSs_ok j), fun n σ H => ∃ c s' F', Same F0 F' ∧ Stt O HI (Γi c) s' σ F' H ∧ whN T B Pk n c s', ⟨n0, c0, s, F, e0, st.le h0, hp⟩, ?_⟩
  rintro n σ2 H2 ⟨c, s', F', e2, st2, fw⟩
  cases n with
  | zero => exact fw.elim
  | succ n =>
    refine ht c s' HI _ _ σ2 F' H2 st2 (fun b s1 F1 H1 c1 e1 st1 => ?_) fw
    cases b with
    | false => exact iteF ⟨c, s1, F1, by simpa using c1, e2.trans e1, st1⟩
    | true =>
      refine iteT ⟨nxJ O HI F1 Γi (fun c' s' => whN T B Pk n c' s'), fun σ' H' ⟨c', s5, F5, p5, e5, st5⟩ => ⟨n, Nat.lt_succ_self n, c', s5, F5, (e2.trans e1).trans e5, st5, p5⟩, ?_⟩
      exact hb F1 (e2.trans e1) c _ _ s1 σ2 F1 H1 (Same.refl _) st1 (by simpa using c1)
end
section
variable {P : Program} {w : World} {K : PySem.W.Frag} {mg : Str → Option Value} {base : Heap} {N : List Str} {k : Nat}
/-- a def whose last row wants a token -/
theorem fn_okT {x qual : Str} {st : Stmt} {f : Addr} {fd : FuncData} {ps : List Str} {αs ρ ad : Type} {S : Type} {PA : ad → αs → List VA} {O : ad → S → Res} {A : ρ → VA} {m : αs → S → (ρ → S → Prop) → Prop} (F : Fun K x qual st f fd) (Sc : FnScope N ps (defScope st))
    (hnc : ∀ y ∈ (defScope st).names, y.2 ≠ .cell) (hps : 1 ≤ ps.length) (hlen : ∀ a x, (PA a x).length = ps.length)
    (body : ∀ (M : Fm P w K mg base N (defScope st) (fun _ => true) k) (a : ad) (x : αs) (s : S) (HI F0 : Hp) (R : ρ → S → Prop), XSsT M (O a) HI F0 ((PA a x).map some ++ List.replicate (N.length - ps.length) none) s (defBody st) { nx := fun _ H' => rtJ (O a) HI F0 A R .non H', rt := rtJ (O a) HI F0 A R, bk := fun _ _ => False, ct := fun _ _ => False } (m x s R)) :
    FnOk P w K mg base CX0 (k + 1) f fd ps (SpF ad PA O A m) := by
  obtain ⟨oc, od', kV', doc, pm, an, cdv, ct, osl, rfl, lk, hcd⟩ := F.ex
  refine fn_ofT lk hcd Sc hnc hps (fun vs H Q E h => ?_) (fun A' outer s H vs Q E hr h => ?_)
  · obtain ⟨a, x, s, F, HI, h2, av, _⟩ := h
    rw [← av.length]; exact hlen a x
  · obtain ⟨a, x, s', F', HI, h2, av, ho, ok, C, hC, hm⟩ := h
    let M : Fm P w K mg base N (defScope st) (fun _ => true) k := { ι := Unit, X := fun _ => (cxOf CX0 P w K mg base N qual (defScope st) f cdv A' outer s H E).nox, prog := fun _ => rfl, wd := fun _ => rfl, kf := fun _ => rfl, mgl := fun _ => rfl, bas := fun _ => rfl, nn := fun _ => rfl, scp := fun _ => rfl, calm := fun _ => rfl, room := fun _ => hr, pass := fun _ => PassesOwn.never, fnl := fun _ _ _ => rfl, nd := Sc.nd }
    have hl : (PA a x).length = vs.length := av.length
    have fin : ∀ v H', rtJ (O a) HI F' A C v H' → Q v H' := fun v H' ⟨y, s5, F5, r5, e5, hv, h1, h2, q1, q2, q3, q4⟩ => by
      have q2 : h1 = [] := q2
      subst q2
      exact hC y s5 r5 v F5 hv h2 H' e5 q1 q3 q4
    have big := body M a x s' HI F' C (L2.start N vs) F' H (Same.refl _) ⟨[], h2, by
      unfold L2.start
      rw [← hl, hlen a x]
      exact Sat.start _ av, ho, ok⟩ hm
    refine ⟨fun D σ H' => rdSsT M (defBody st) { nx := fun _ H' => rtJ (O a) HI F' A C .non H', rt := rtJ (O a) HI F' A C, bk := fun _ _ => False, ct := fun _ _ => False } σ H' ∧ D = { nx := fun _ H' => Q .non H', rt := Q }, ?_, big, rfl⟩
    refine PSsT.nox (X := cxOf CX0 P w K mg base N qual (defScope st) f cdv A' outer s H E) ?_
    intro pins s0 σ0 H0 D0 k0 I0 ⟨q, eD⟩
    subst eD
    refine wpAny_mono (rdSsT_ok (M := M) () pins s0 σ0 H0 _ k0 I0 q) (fun fl s1 hs => ?_) fun _ _ z => z
    cases fl with
    | next => obtain ⟨σ', H', I', q⟩ := hs; exact ⟨σ', H', I', fin _ _ q⟩
    | brk => obtain ⟨σ', H', I', q⟩ := hs; exact q.elim
    | cont => obtain ⟨σ', H', I', q⟩ := hs; exact q.elim
    | ret u => obtain ⟨v, σ', H', I', r, q⟩ := hs; exact ⟨v, σ', H', I', r, fin _ _ q⟩
end
end Sm

set_option Elab.async false
set_option linter.all false
set_option maxRecDepth 100000
set_option maxHeartbeats 4000000
namespace Sm
open PySem PySem.Spec PyProof.Rows L2
section
variable {P : Program} {w : World} {K : PySem.W.Frag} {mg : Str → Option Value} {base : Heap} {N : List Str} {sc : Scope} {fn : Str → Bool} {k : Nat}
variable {M : Fm P w K mg base N sc fn k}
variable {S : Type} {O : S → Res} {Γ : Asrt} {s : S} {κ α β γ ρ : Type} [DecidableEq κ] {rk : RP κ} {ky : KeyR rk} {rv : RP β} {ra : RP α} {rb : RP γ} {A : ρ → VA}
/-! ### f(.., {}): the callee's table is made here -/
def XAd (M : Fm P w K mg base N sc fn k) {ρ : Type} (O : S → Res) (Γ : Asrt) (s : S) (es : List Expr) (A : ρ → Addr → List VA) (W : (ρ → S → Prop) → Prop) : Prop :=
  ∀ (HI : Hp) (C : ρ → S → Prop) (Q : List V → Hp → Prop) (σ : L2.St) (F H : Hp), Stt O HI Γ s σ F H →
    (∀ x s' vs a F' H' h1 h2, C x s' → Same F F' → AllV (A x a) vs F' → Sat Γ σ F' h1 → (O s').p F' h2 → Ok F' ((a, .dK []) :: (h1 ++ h2)) HI H' → Q vs H') → W C → rdA M es σ H Q
theorem xad_new {pos : Pos} (hs : NoStar (.Dict [] [] pos) := by intro _ _; rfl) : XAd M O Γ s [.Dict [] [] pos] (fun (_ : Unit) a => [fz pA a]) (fun k => k () s) := by
  intro HI C Q σ F H st hq hc
  refine ⟨_, fun i => pa_cons pe_dnewK pa_nil (hs _ _), fun p hp => ?_⟩
  obtain ⟨h1, h2, sa, so, ok⟩ := st
  exact hq () s [.ref p] p F _ h1 h2 hc (Same.refl _) ⟨⟨rfl, rfl⟩, trivial⟩ sa so (ok.newO hp)
theorem xad_cons {e : Expr} {es : List Expr} {B : ρ → Addr → List VA} {wa : (α → S → Prop) → Prop} {wr : S → (ρ → S → Prop) → Prop} (ha : XE M O Γ s e (fz ra) wa) (hr : ∀ s', XAd M O Γ s' es B (wr s')) (hs : NoStar e := by intro _ _; rfl) :
    XAd M O Γ s (e :: es) (fun (x : α × ρ) a => fz ra x.1 :: B x.2 a) (fun k => wa fun x s1 => wr s1 fun y s2 => k (x, y) s2) := by
  intro HI C Q σ F H st hq hc
  refine ⟨_, fun i => pa_cons (rdE_ok i) (rdA_ok i) (hs _ _), ha HI _ _ σ F H st (fun x s1 u F1 H1 c1 e1 sv1 => ?_) hc⟩
  obtain ⟨rx, st1⟩ := sv1.fz
  refine hr s1 HI _ _ σ F1 H1 st1 (fun y s2 vs a F2 H2 h1 h2 c2 e2 al sa so ok => ?_) c1
  exact hq (x, y) s2 (u :: vs) a F2 H2 h1 h2 c2 (e1.trans e2) ⟨⟨rfl, ra.mono e2 rx⟩, al⟩ sa so ok
theorem xe_callN {S1 : Type} {I : S1 → Prop} {x : Str} {j : Nat} {ps : List Str} {αs : Type} {PA : Addr → αs → List VA} {O1 : Addr → S1 → Res} {m : αs → S1 → (ρ → S1 → Prop) → Prop} {p pos : Pos} {e : Expr} {es : List Expr} {A' : αs → Addr → List VA} {wa : (αs → S → Prop) → Prop}
    (h : Has P w K mg base x j ps (SpF Addr PA O1 A m)) (ad : Adp (od ky rv []) O1 I) (ha : XAd M O Γ s (e :: es) A' wa) (hj : j ≤ k := by first | decide | omega) (hg : GlN sc x := by rfl) (hA : ∀ z a, A' z a = PA a z := by intro _ _; rfl)
    (hs : NoStar e := by intro _ _; rfl) (hpl : ∀ env, (backTo pos (starEach es env)).any (·.1) = false := by intro _; rfl) (hdb : (x == ("__debug__" : Str)) = false := by decide) :
    XE M O Γ s (.Call (.Name x p) (e :: es) [] pos) A (fun k => wa fun z s1 => ∃ n, I n ∧ m z n fun y _ => k y s1) := by
  intro HI C Q σ F H st hq hc
  obtain ⟨f, fd, e1, e2, e3, e4⟩ := h.ex
  refine ⟨_, fun i => pe_call (sp := SpF Addr PA O1 A m) (dvs := []) (ds := []) (E := E0) (by rw [M.prog, M.wd, M.kf, M.mgl, M.bas]; exact e4) ((M.room i).mono hj) (Gl.of hg i) (by rw [M.mgl]; exact e1) (by rw [M.kf]; exact e2) (by rw [M.kf]; exact e3) .nil pass0 (rdA_ok i) hdb (hs _ _) (hpl _), ?_⟩
  refine ha HI _ _ σ F H st (fun z s1 vs a F1 H1 h1 h2 c1 ex al sa so ok => ?_) hc
  rw [hA] at al
  obtain ⟨n, hn, c1⟩ := c1
  obtain ⟨a', ea, o1⟩ := ad n hn (.ref a) F1 [(a, .dK [])] ⟨a, [], rfl, rfl, trivial⟩
  cases ea
  have okp : Ok F1 ([(a, .dK [])] ++ (h1 ++ h2)) HI H1 := ok
  rw [List.append_nil]
  refine ⟨a, z, n, F1, Sm.hide HI (h1 ++ h2), [(a, .dK [])], al, o1, okp.hide, _, fun y s2 c v F' hv h2' H' e3 av o2 ok2 => ?_, c1⟩
  refine hq y s1 v F' H' c (ex.trans e3) ⟨hv, h1, h2, av, sa.mono e3, (O s1).mono e3 so, ?_⟩
  have ok3 := okp.unhide ok2
  refine ok3.sub ?_
  rw [List.append_assoc]
  exact List.Sublist.append_left (List.sublist_append_right _ _) _
/-! ### tests that only look, tests by dicts -/
theorem xt_peek {Δ : Asrt} {e : Expr} {wd : (Bool → Prop) → Prop} (hp : Pk K Γ Δ) (h : XT M (fun _ : Unit => emp) Δ () e (fun k => wd fun x => k x ())) : XT M O Γ s e (fun k => wd fun x => k x s) := by
  intro HI C Q σ F H st hq hc
  obtain ⟨h1, h2, sa, so, ok⟩ := st
  obtain ⟨k1, e1, m1⟩ := frA_ok ok.hide
  refine h (Sm.hide HI h2) (fun x _ => C x s) Q σ (frA F h1) H ⟨[], [], hp.sat e1 sa m1, rfl, k1⟩ (fun x s' F' H' c e2 st2 => ?_) hc
  obtain ⟨g1, g2, _, _, ok'⟩ := st2
  exact hq x s F H' c (Same.refl _) ⟨h1, h2, sa, so, ok.back e2 ok'⟩
section
variable {i : Nat} {x : Str} {p1 pos : Pos} {e : Expr} {dd : S → List (κ × β)} {we : (κ → S → Prop) → Prop}
theorem xt_dinV (hD : DAt O Γ i ky rv dd) (he : XE M O Γ s e (fz rk) we) (hN : N[i]? = some x := by rfl) (hv : Vis sc x := by first | exact Or.inl rfl | exact Or.inr (Or.inl rfl) | exact Or.inr (Or.inr rfl))
    (hd : (x == ("__debug__" : Str)) = false := by decide) (hcd : (x == ("__classdict__" : Str)) = false := by decide) :
    XT M O Γ s (.Compare e [.In] [.Name x p1] pos) (fun k => we fun z s1 => k (dget (dd s1) z).isSome s1) := by
  intro HI C Q σ F H st hq hc
  refine ⟨_, fun j => pt_cmp (pc_din (M.hu1 j) (rdE_ok j) (pe_nameO (pos := p1) hN hv hd hcd j)) rfl, ?_⟩
  refine he HI _ _ σ F H st (fun z s1 u F1 H1 c1 e1 sv1 => ?_) hc
  obtain ⟨rx, st1⟩ := sv1.fz
  obtain ⟨a, kvs, ev, hH, al⟩ := hD st1
  obtain ⟨o, g, o1, _, _⟩ := dk_opt (x := z) hH al
  exact ⟨.ref a, ev, a, o, rfl, by rw [ky.val rx]; exact g, o.isSome, rfl, by rw [o1]; exact hq _ s1 F1 H1 c1 e1 st1⟩
theorem xt_dninV (hD : DAt O Γ i ky rv dd) (he : XE M O Γ s e (fz rk) we) (hN : N[i]? = some x := by rfl) (hv : Vis sc x := by first | exact Or.inl rfl | exact Or.inr (Or.inl rfl) | exact Or.inr (Or.inr rfl))
    (hd : (x == ("__debug__" : Str)) = false := by decide) (hcd : (x == ("__classdict__" : Str)) = false := by decide) :
    XT M O Γ s (.Compare e [.NotIn] [.Name x p1] pos) (fun k => we fun z s1 => k (dget (dd s1) z).isNone s1) := by
  intro HI C Q σ F H st hq hc
  refine ⟨_, fun j => pt_cmp (pc_dnotin (M.hu1 j) (rdE_ok j) (pe_nameO (pos := p1) hN hv hd hcd j)) rfl, ?_⟩
  refine he HI _ _ σ F H st (fun z s1 u F1 H1 c1 e1 sv1 => ?_) hc
  obtain ⟨rx, st1⟩ := sv1.fz
  obtain ⟨a, kvs, ev, hH, al⟩ := hD st1
  obtain ⟨o, g, o1, _, _⟩ := dk_opt (x := z) hH al
  have eo : (!o.isSome) = (dget (dd s1) z).isNone := by rw [o1]; cases dget (dd s1) z <;> rfl
  exact ⟨.ref a, ev, a, o, rfl, by rw [ky.val rx]; exact g, _, rfl, by rw [eo]; exact hq _ s1 F1 H1 c1 e1 st1⟩
end
/-! ### x op= e, ints -/
theorem xs_augG {HI F0 : Hp} {D : Ends} {op : Operator} {e : Expr} {x : Str} {p1 pos : Pos} {rest : List Stmt} {a : Int} {g : Int → Int → Int} {W : (Int → S → Prop) → Prop} {Pk : Int → S → Prop} (i : Nat) (hΓ : Γ[i]? = some (some (fz pI a)))
    (ho : ∀ j, PIp (M.X j) op (fun x y H Q => ∃ u v, x = .int u ∧ y = .int v ∧ Q (.int (g u v)) H)) (he : XE M O Γ s e (fz pI) W) (hk : ∀ y s', XSs M O HI F0 (Γ.set i (some (fz pI (g a y)))) s' rest D (Pk y s'))
    (hN : N[i]? = some x := by rfl) (hx : Loc sc x := by first | exact Or.inl rfl | exact Or.inr rfl) (hf : fn x = true ∨ sc.names.lookup x = some .local := by first | exact Or.inl rfl | exact Or.inr rfl) (hl : Γ.length = N.length := by rfl) :
    XSs M O HI F0 Γ s (.AugAssign (.Name x p1) op e pos :: rest) D (W Pk) := by
  intro σ F H e0 st hp
  have hi : i < N.length := (List.getElem?_eq_some_iff.mp hN).1
  obtain ⟨v, ev, rv0⟩ := st.slot hΓ
  refine ⟨_, fun j => pss_cons (ps_aug (i := i) (by rw [M.nn]; exact M.nd) (by rw [M.nn]; exact hN) (by rw [M.scp]; exact hx) (rdE_ok j) (ho j) (by rw [M.scp]; exact hf.imp (M.fnl j x) fun q => q)) (rdSs_ok j), v, ev, ?_⟩
  refine he HI _ _ σ F H st (fun y s' u F' H' c e1 sv => ?_) hp
  obtain ⟨ru, st'⟩ := sv.fz
  refine ⟨a, y, rv0, ru, ?_⟩
  exact hk y s' _ F' H' (e0.trans e1) (Stt.put (st'.val (r := pI) (x := g a y) rfl) (by rw [hl]; exact hi)) c
theorem xs_augSub {HI F0 : Hp} {D : Ends} {e : Expr} {x : Str} {p1 pos : Pos} {rest : List Stmt} {a : Int} {W : (Int → S → Prop) → Prop} {Pk : Int → S → Prop} (i : Nat) (hΓ : Γ[i]? = some (some (fz pI a))) (he : XE M O Γ s e (fz pI) W) (hk : ∀ y s', XSs M O HI F0 (Γ.set i (some (fz pI (a - y)))) s' rest D (Pk y s'))
    (hN : N[i]? = some x := by rfl) (hx : Loc sc x := by first | exact Or.inl rfl | exact Or.inr rfl) (hf : fn x = true ∨ sc.names.lookup x = some .local := by first | exact Or.inl rfl | exact Or.inr rfl) (hl : Γ.length = N.length := by rfl) :
    XSs M O HI F0 Γ s (.AugAssign (.Name x p1) .Sub e pos :: rest) D (W Pk) := xs_augG (g := fun u v => u - v) i hΓ (fun j => ip_sub) he hk hN hx hf hl
theorem xs_augAdd {HI F0 : Hp} {D : Ends} {e : Expr} {x : Str} {p1 pos : Pos} {rest : List Stmt} {a : Int} {W : (Int → S → Prop) → Prop} {Pk : Int → S → Prop} (i : Nat) (hΓ : Γ[i]? = some (some (fz pI a))) (he : XE M O Γ s e (fz pI) W) (hk : ∀ y s', XSs M O HI F0 (Γ.set i (some (fz pI (a + y)))) s' rest D (Pk y s'))
    (hN : N[i]? = some x := by rfl) (hx : Loc sc x := by first | exact Or.inl rfl | exact Or.inr rfl) (hf : fn x = true ∨ sc.names.lookup x = some .local := by first | exact Or.inl rfl | exact Or.inr rfl) (hl : Γ.length = N.length := by rfl) :
    XSs M O HI F0 Γ s (.AugAssign (.Name x p1) .Add e pos :: rest) D (W Pk) := xs_augG (g := fun u v => u + v) i hΓ (fun j => ip_add) he hk hN hx hf hl
end
/-- of a promise over a part that is told: the one over the whole state -/
def conc {αs ρ S1 S2 : Type} (I : S2 → S1 → Prop) (m2 : αs → S2 → (ρ → S2 → Prop) → Prop) : αs → S1 → (ρ → S1 → Prop) → Prop := fun x s C => ∃ n, I n s ∧ m2 x n fun y n' => ∀ s', I n' s' → C y s'
theorem SpF.conc {αs ρ ad S1 S2 : Type} {PA : ad → αs → List VA} {O1 : ad → S1 → Res} {A : ρ → VA} {m2 : αs → S2 → (ρ → S2 → Prop) → Prop} {I : S2 → S1 → Prop}
    {vs : List V} {H : Hp} {Q : VK} {E : XK} (h : SpF ad PA O1 A (Sm.conc I m2) vs H Q E) : SpF ad PA (fun a => hidR I (O1 a)) A m2 vs H Q E := by
  obtain ⟨a, x, s, F, HI, h2, av, ho, ok, C, hC, n, hi, hw⟩ := h
  exact ⟨a, x, n, F, HI, h2, av, ⟨s, hi, ho⟩, ok, _, fun y n' c v F' hv h2' H' e1 p1 ⟨s', hi', p2⟩ p3 => hC y s' (c s' hi') v F' hv h2' H' e1 p1 p2 p3, hw⟩
end Sm

set_option Elab.async false
set_option linter.all false
set_option maxRecDepth 100000
set_option maxHeartbeats 4000000
namespace Sm
open PySem PySem.Spec PyProof.Rows L2
section
variable {P : Program} {w : World} {K : PySem.W.Frag} {mg : Str → Option Value} {base : Heap} {N : List Str} {sc : Scope} {fn : Str → Bool} {k : Nat}
variable {M : Fm P w K mg base N sc fn k}
variable {S : Type} {O : S → Res} {Γ : Asrt} {s : S} {α β γ ρ : Type} {ra : RP α} {rb : RP β} {rc : RP γ} {A : ρ → VA}
/-! ### min(xs) of a list of ints -/
def lowest (xs : List Int) (y : Int) : Prop := y ∈ xs ∧ ∀ z ∈ xs, y ≤ z
theorem o_minL : Op1 (fun u => rMin K [u]) (pL K pI) (fz pI) (fun xs k => ∃ y, lowest xs y ∧ k y) :=
  fun O HI Γ s σ F H x u C Q st ⟨a, vs, h1, h2, h3⟩ hq ⟨y, ⟨l1, l2⟩, hc⟩ => ⟨a, x, by rw [h1], by rw [← All2.map_eq (f := V.int) h3]; exact SqL.mono st.ok h2, List.length_pos_of_mem l1, fun m m1 m2 => by
    have e : m = y := Int.le_antisymm (m2 y l1) (l2 m m1)
    rw [e]; exact hq _ _ F H hc (Same.refl _) (st.val rfl)⟩
theorem xe_minL {p pos : Pos} {e : Expr} {wa : (List Int → S → Prop) → Prop} (hm : mg "min" = none) (ha : XE M O Γ s e (fz (pL K pI)) wa) (hg : GlN sc "min" := by rfl) (hs : NoStar e := by intro _ _; rfl) :
    XE M O Γ s (.Call (.Name "min" p) [e] [] pos) (fz pI) (fun k => wa fun x s1 => ∃ y, lowest x y ∧ k y s1) :=
  xe_cb1 b_min (fun i => by have h := cr_min (X := M.X i) (M.calm i); rw [M.kf i] at h; exact h) o_minL hm hg ha (by decide) (by decide) hs
/-! ### t[1:] of a triple -/
theorem xe_tail3 {e : Expr} {lo : Option Expr} {p2 pos : Pos} {wa : (α × β × γ → S → Prop) → Prop} (ha : XE M O Γ s e (fz (pP3 K ra rb rc)) wa) (hl : ∀ s', XO M O Γ s' lo (fun k => k (some 1) s')) (hh : ∀ s', XO M O Γ s' (none : Option Expr) (fun k => k none s')) :
    XE M O Γ s (.Subscript e (.Slice lo none none p2) pos) (fz (pP K rb rc)) (fun k => wa fun x s1 => k (x.2.1, x.2.2) s1) := by
  intro HI C Q σ F H st hq hc
  refine ⟨tSl (rSlA K) (rdE M e) (rdO M lo) (rdO M none), fun i => (by have h := pe_slice (X := M.X i) (pos := pos) (p2 := p2) sl_tupA (rdE_ok (M := M) i (e := e)) (rdO_ok (M := M) i (e := lo)) (rdO_ok (M := M) i (e := none)); rw [M.kf i] at h; exact h), ha HI _ _ σ F H st (fun x s1 u F1 H1 c1 e1 sv1 => ?_) hc⟩
  obtain ⟨⟨a, u1, u2, u3, h1, h2, h3, h4, h5⟩, st1⟩ := sv1.fz
  refine hl s1 HI (fun l s2 => l = some 1 ∧ s2 = s1) _ σ F1 H1 st1 (fun l s2 F2 H2 c2 e2 st2 => hh s2 HI (fun h s3 => h = none ∧ s3 = s1) _ σ F2 H2 st2 (fun h s3 F3 H3 c3 e3 st3 => ?_) ⟨rfl, c2.2⟩) ⟨rfl, rfl⟩
  obtain ⟨rfl, rfl⟩ := c2
  obtain ⟨rfl, rfl⟩ := c3
  refine ⟨a, [u1, u2, u3], h1, SqT.mono ((e2.trans e3).trans st3.ok) h2, fun hw => ?_, fun _ p hp => ?_⟩
  · exact absurd hw.1 (show ¬ HT.sIx 3 0 (some 1) = 0 by decide)
  · obtain ⟨e4, st4⟩ := st3.newF (o := .tup (cutV [u1, u2, u3] (some 1) none)) hp
    exact hq _ s3 _ _ _ c1 (e1.trans (e2.trans (e3.trans e4))) (st4.val ⟨p, u2, u3, rfl, .inl (.inl upd_same), rb.mono (e2.trans (e3.trans e4)) h4, rc.mono (e2.trans (e3.trans e4)) h5⟩)
/-! ### t[0], t[1], t[2] of a triple -/
theorem xe_pick3_0 {a : Expr} {j0 : Nat} {p0 pos : Pos} {wa : (α × β × γ → S → Prop) → Prop} (ha : XE M O Γ s a (fz (pP3 K ra rb rc)) wa) : XE M O Γ s (.Subscript a (.Constant (.int 0) j0 p0) pos) (fz ra) (fun k => wa fun x s1 => k x.1 s1) := by
  intro HI C Q σ F H st hq hc
  refine ⟨_, fun i => pe_ix (by have h := ix_tup (X := M.X i); rw [M.kf i] at h; exact h) (rdE_ok i) (rdE_ok i) (by intro _ _; rfl), ?_⟩
  refine ha HI _ _ σ F H st (fun x s1 v F1 H1 c1 e1 sv1 => ?_) hc
  obtain ⟨⟨t, u1, u2, u3, ev, hs, r1, r2, r3⟩, st1⟩ := sv1.fz
  refine xe_int (M := M) (O := O) (Γ := Γ) (s := s1) (i := 0) HI (fun z s2 => z = 0 ∧ s2 = s1) _ σ F1 H1 st1 (fun z s2 u F2 H2 c2 e2 sv2 => ?_) ⟨rfl, rfl⟩
  obtain ⟨ez, es⟩ := c2
  subst ez es
  obtain ⟨rz, st2⟩ := sv2.fz
  exact ⟨t, [u1, u2, u3], 0, u1, ev, rz, SqT.mono (e2.trans st2.ok) hs, rfl, hq _ s2 _ F2 _ c1 (e1.trans e2) (st2.val (ra.mono e2 r1))⟩
theorem xe_pick3_1 {a : Expr} {j0 : Nat} {p0 pos : Pos} {wa : (α × β × γ → S → Prop) → Prop} (ha : XE M O Γ s a (fz (pP3 K ra rb rc)) wa) : XE M O Γ s (.Subscript a (.Constant (.int 1) j0 p0) pos) (fz rb) (fun k => wa fun x s1 => k x.2.1 s1) := by
  intro HI C Q σ F H st hq hc
  refine ⟨_, fun i => pe_ix (by have h := ix_tup (X := M.X i); rw [M.kf i] at h; exact h) (rdE_ok i) (rdE_ok i) (by intro _ _; rfl), ?_⟩
  refine ha HI _ _ σ F H st (fun x s1 v F1 H1 c1 e1 sv1 => ?_) hc
  obtain ⟨⟨t, u1, u2, u3, ev, hs, r1, r2, r3⟩, st1⟩ := sv1.fz
  refine xe_int (M := M) (O := O) (Γ := Γ) (s := s1) (i := 1) HI (fun z s2 => z = 1 ∧ s2 = s1) _ σ F1 H1 st1 (fun z s2 u F2 H2 c2 e2 sv2 => ?_) ⟨rfl, rfl⟩
  obtain ⟨ez, es⟩ := c2
  subst ez es
  obtain ⟨rz, st2⟩ := sv2.fz
  exact ⟨t, [u1, u2, u3], 1, u2, ev, rz, SqT.mono (e2.trans st2.ok) hs, rfl, hq _ s2 _ F2 _ c1 (e1.trans e2) (st2.val (rb.mono e2 r2))⟩
theorem xe_pick3_2 {a : Expr} {j0 : Nat} {p0 pos : Pos} {wa : (α × β × γ → S → Prop) → Prop} (ha : XE M O Γ s a (fz (pP3 K ra rb rc)) wa) : XE M O Γ s (.Subscript a (.Constant (.int 2) j0 p0) pos) (fz rc) (fun k => wa fun x s1 => k x.2.2 s1) := by
  intro HI C Q σ F H st hq hc
  refine ⟨_, fun i => pe_ix (by have h := ix_tup (X := M.X i); rw [M.kf i] at h; exact h) (rdE_ok i) (rdE_ok i) (by intro _ _; rfl), ?_⟩
  refine ha HI _ _ σ F H st (fun x s1 v F1 H1 c1 e1 sv1 => ?_) hc
  obtain ⟨⟨t, u1, u2, u3, ev, hs, r1, r2, r3⟩, st1⟩ := sv1.fz
  refine xe_int (M := M) (O := O) (Γ := Γ) (s := s1) (i := 2) HI (fun z s2 => z = 2 ∧ s2 = s1) _ σ F1 H1 st1 (fun z s2 u F2 H2 c2 e2 sv2 => ?_) ⟨rfl, rfl⟩
  obtain ⟨ez, es⟩ := c2
  subst ez es
  obtain ⟨rz, st2⟩ := sv2.fz
  exact ⟨t, [u1, u2, u3], 2, u3, ev, rz, SqT.mono (e2.trans st2.ok) hs, rfl, hq _ s2 _ F2 _ c1 (e1.trans e2) (st2.val (rc.mono e2 r3))⟩
theorem All2.someO {F : Hp} (hn : ∀ (x : α) F, ¬ ra.r x .non F) : ∀ {xs : List α} {vs : List V}, All2 (fun x u => ra.r x u F) xs vs → All2 (fun x u => (pO ra).r x u F) (xs.map some) vs
  | [], [], _ => trivial
  | x :: xs, v :: vs, h => ⟨⟨fun z => hn x F (z ▸ h.1), h.1⟩, All2.someO hn h.2⟩
/-- a list of what is never None -/
theorem xe_LO {e : Expr} {wa : (List α → S → Prop) → Prop} (hn : ∀ (x : α) F, ¬ ra.r x .non F) (ha : XE M O Γ s e (fz (pL K ra)) wa) : XE M O Γ s e (fz (pL K (pO ra))) (fun k => wa fun x s1 => k (x.map some) s1) := by
  intro HI C Q σ F H st hq hc
  refine ha HI _ Q σ F H st (fun x s1 v F1 H1 c1 e1 sv1 => ?_) hc
  obtain ⟨⟨a, vs, h1, h2, h3⟩, st1⟩ := sv1.fz
  exact hq _ s1 _ F1 H1 c1 e1 (st1.val ⟨a, vs, h1, h2, All2.someO hn h3⟩)
/-! ### names that a walk leaves -/
theorem xs_leak {HI F0 : Hp} {D : Ends} {sts : List Stmt} {o : Option γ} {Pk : γ → Prop} (Γf : Option γ → Asrt) (Γ2 : γ → Asrt) (h : Γ = Γf o) (h2 : ∀ y, Γf (some y) = Γ2 y) (hk : ∀ y, XSs M O HI F0 (Γ2 y) s sts D (Pk y)) : XSs M O HI F0 Γ s sts D (∃ y, o = some y ∧ Pk y) := by
  intro σ F H e st ⟨y, ho, hp⟩
  subst ho h
  exact hk y σ F H e (by rw [← h2]; exact st) hp
end
end Sm
namespace Sm
open PySem PySem.Spec PyProof.Rows L2
section
variable {P : Program} {w : World} {K : PySem.W.Frag} {mg : Str → Option Value} {base : Heap} {N : List Str} {sc : Scope} {fn : Str → Bool} {k : Nat}
variable {M : Fm P w K mg base N sc fn k}
variable {S : Type} {O : S → Res} {Γ : Asrt} {s : S} {α β γ ρ : Type} {ra : RP α} {A : ρ → VA}
/-- x.clear(), x owned -/
theorem xs_clear {HI F0 : Hp} {D : Ends} {x : Str} {p1 ap cp pos : Pos} {rest : List Stmt} {xs : List α} {Pk : Prop} (i : Nat) (hΓ : Γ[i]? = some (some (ol ra xs)))
    (hk : XSs M O HI F0 (Γ.set i (some (ol ra ([] : List α)))) s rest D Pk) (hN : N[i]? = some x := by rfl) (hv : Vis sc x := by first | exact Or.inl rfl | exact Or.inr (Or.inl rfl) | exact Or.inr (Or.inr rfl)) (hd : (x == ("__debug__" : Str)) = false := by decide) (hcd : (x == ("__classdict__" : Str)) = false := by decide)
    (hbase : ∀ env, attributeBase (.Name x p1) "clear" env (eval (.Name x p1) env) = eval (.Name x p1) env := by intro _; rfl) (hline : (ap.endLine == cp.line) = true := by rfl)
    (hs : ∀ j, swapsWith (.Call (.Attribute (.Name x p1) "clear" ap) [] [] cp) none pos.line (M.X j).env = pure false := by intro _; rfl) :
    XSs M O HI F0 Γ s (.Expr (.Call (.Attribute (.Name x p1) "clear" ap) [] [] cp) pos :: rest) D Pk := by
  intro σ F H e0 st hp
  refine ⟨_, fun j => pss_cons (ps_expr (by
    have h := pe_bm0 (X := M.X j) (cpos := cp) (apos := ap) PySem.F.plainAttrs_list PySem.F.slot_list_clear PySem.F.type_list_clear mt_clear (pe_nameO (pos := p1) hN hv hd hcd j) (hbase _) hline
    rw [M.kf j] at h; exact h) (hs j)) (rdSs_ok j), ?_⟩
  obtain ⟨a, vs, ea, eh, al, up⟩ := st.own hΓ
  exact ⟨.ref a, ea, .inl ⟨rfl, vs, SqL.of eh⟩, a, vs, rfl, rfl, eh, hk σ F _ e0 (up [] [] trivial) hp⟩
/-- tg = x.pop(e), x owned -/
theorem xs_popIAsg {HI F0 : Hp} {D : Ends} {tg e1 : Expr} {x : Str} {p1 ap cp pos : Pos} {rest : List Stmt} {g : α → Asrt → Asrt} {L : List Nat} {xs : List α} {w1 : (Int → S → Prop) → Prop} {Pk : Nat → α → S → Prop} (i : Nat) (hΓ : Γ[i]? = some (some (ol ra xs))) (he1 : XE M O Γ s e1 (fz pI) w1) (hg : XGt M tg ra g L)
    (hk : ∀ m y s', XSs M O HI F0 (g y (Γ.set i (some (ol ra (xs.eraseIdx m))))) s' rest D (Pk m y s')) (hl : Γ.length = N.length := by rfl) (hN : N[i]? = some x := by rfl) (hv : Vis sc x := by first | exact Or.inl rfl | exact Or.inr (Or.inl rfl) | exact Or.inr (Or.inr rfl)) (hd : (x == ("__debug__" : Str)) = false := by decide) (hcd : (x == ("__classdict__" : Str)) = false := by decide) (hns : NoStar e1 := by intro _ _; rfl)
    (hfew : ∀ env, ((backTo cp (starEach [e1] env)).all (fun x => !x.1) && (backToKw cp (keywordEach [] env)).all (fun x => x.1.isSome) && decide ([e1].length + ([] : List Keyword).length + (if ([] : List Keyword).isEmpty then 0 else 1) < 30)) = true := by intro _; rfl)
    (hline : (ap.endLine == cp.line) = true := by rfl)
    (hs : ∀ j, swapsWithSole [tg] (.Call (.Attribute (.Name x p1) "pop" ap) [e1] [] cp) pos.line (M.X j).env = pure false := by intro _; rfl) (hw : ∀ j, swappedStores [tg] (.Call (.Attribute (.Name x p1) "pop" ap) [e1] [] cp) (M.X j).env = pure none := by intro _; rfl) (h1 : ∀ env, (assignEach [tg] env).map (·.2) = [assign tg env] := by intro _; rfl) :
    XSs M O HI F0 Γ s (.Assign [tg] (.Call (.Attribute (.Name x p1) "pop" ap) [e1] [] cp) pos :: rest) D (w1 fun q s1 => (-(2 ^ 63) ≤ q ∧ q < 2 ^ 63) ∧ ∃ m, ixN xs.length q = some m ∧ ∃ y, xs[m]? = some y ∧ Pk m y s1) := by
  intro σ F H e0 st hp
  refine ⟨_, fun j => pss_cons (ps_asg (by
    have h := pe_bm (X := M.X j) (cpos := cp) PySem.F.plainAttrs_list PySem.F.slot_list_pop PySem.F.type_list_pop mt_popAt (pe_nameO (pos := p1) hN hv hd hcd j) (pa_cons (rdE_ok (M := M) j) pa_nil (hns _ _)) rfl (hfew _) hline (hns _ _) rfl
    rw [M.kf j] at h; exact h) (rdG_ok j) (hs j) (hw j) (h1 _)) (rdSs_ok j), ?_⟩
  obtain ⟨a, vs, ea, eh, al, _⟩ := st.own hΓ
  refine ⟨.ref a, ea, .inl ⟨rfl, vs, SqL.of eh⟩, ?_⟩
  refine he1 HI _ _ σ F H st (fun q s1 iv F1 H1 c1 ex1 sv1 => ?_) hp
  obtain ⟨ri, st1⟩ := sv1.fz
  obtain ⟨⟨q1, q2⟩, m, hm, y, hy, c⟩ := c1
  obtain ⟨a', vs', ea', eh', al', up⟩ := st1.own hΓ
  rw [ea] at ea'; cases ea'
  have hm' : ixN vs'.length q = some m := by rw [← al'.length]; exact hm
  obtain ⟨u, hu, ru⟩ := al'.get hy
  refine ⟨a, vs', q, m, u, rfl, by rw [show iv = V.int q from ri], eh', q1, q2, (ixN_seq hm').1, hu, ?_⟩
  have st3 := up (xs.eraseIdx m) (vs'.eraseIdx m) (al'.eraseIdx m)
  exact hg.run O HI _ s1 σ F1 _ y u _ (by rw [List.length_set]; exact hl) st3 ru fun σ' l o st4 => hk m y s1 σ' F1 _ (e0.trans ex1) st4 c
end
end Sm

set_option Elab.async false
set_option linter.all false
set_option maxRecDepth 100000
set_option maxHeartbeats 4000000
namespace Sm
open PySem PySem.Spec PyProof.Rows L2
/-! ### sum of a tuple of ints; is not True -/
def rSumU (K : PySem.W.Frag) : List V → Hp → VK → Prop := fun vs H Q => ∃ (a : Addr) (ns : List Int), vs = [V.ref a] ∧ SqT K H a (ns.map V.int) ∧ Q (.int ns.sum) H
theorem cr_sumU {X : Cx} (hc : X.calm = true) : CallR X (.builtin "sum") (rSumU X.K) := by
  intro pins s σ H vs us Q I r h
  obtain ⟨a, ns, rfl, hs, q⟩ := h
  obtain ⟨its, rv, hl, _⟩ := I.tuple hs
  rw [Vals.ref1 r]
  have hi := rv.ints
  obtain ⟨o, h1, h2, n, h3⟩ := hl
  have hl : s.heap.IsTuple a its.toArray := ⟨o, h1, h2, n, h3⟩
  obtain ⟨xs, hx⟩ := hi.allInts.items
  have hn : numsOf its.toArray.toList = ns := by rw [show its.toArray.toList = its from rfl, hi.numsOf]
  have hx : its.toArray = intItems xs := hx
  rw [hx] at hl hn
  rw [nums_intItems] at hn
  refine PySem.W.ktm_sumG (I.ok.hd hc) hl fun h' tk t' hk => ?_
  refine ⟨.int _, H, I.kept hk, ⟨_, rfl⟩, ?_⟩
  rw [preSum_eq, List.take_of_length_le (by simp), hn]; exact q
theorem op_isnB {X : Cx} : OpR X (compareOp .IsNot) (fun x y H Q => ∃ a b : Bool, x = .bl a ∧ y = .bl b ∧ Q (.bl (!(a == b))) H) := by
  intro pins s σ H x y v u Q I rx ry ⟨a, b, ex, ey, q⟩
  subst ex ey
  cases rx
  cases ry
  show wpAny _ _ (do return Value.bool (!(← isSame (.bool a) (.bool b)))) _ _ _
  unfold isSame
  cases a <;> cases b <;> exact wpAny_bind (wpAny_pure (wpAny_pure ⟨.bl _, H, I, rfl, q⟩))
section
variable {P : Program} {w : World} {K : PySem.W.Frag} {mg : Str → Option Value} {base : Heap} {N : List Str} {sc : Scope} {fn : Str → Bool} {k : Nat}
variable {M : Fm P w K mg base N sc fn k}
variable {S : Type} {O : S → Res} {Γ : Asrt} {s : S} {α : Type} {ra : RP α}
theorem xc_isnB {a b : Expr} {wa : (Bool → S → Prop) → Prop} {wb : S → (Bool → S → Prop) → Prop} (ha : XE M O Γ s a (fz pB) wa) (hb : ∀ s', XE M O Γ s' b (fz pB) (wb s')) : XC M O Γ s .IsNot a b (fun k => wa fun x s1 => wb s1 fun y s2 => k (!(x == y)) s2) :=
  xc_op (Wo := fun x y k => k (!(x == y))) (fun i => op_isnB) (fun O HI Γ s σ F H x y u v C Q st rx ry hq hc => ⟨x, y, rx, ry, hq _ _ F H hc (Same.refl _) (st.val rfl)⟩) ha hb
theorem o_sumU : Op1 (fun u => rSumU K [u]) (pU K pI) (fz pI) (fun xs k => k xs.sum) :=
  fun O HI Γ s σ F H x u C Q st ⟨a, vs, h1, h2, h3⟩ hq hc => ⟨a, x, by rw [h1], by rw [← All2.map_eq (f := V.int) h3]; exact SqT.mono st.ok h2, hq _ _ F H hc (Same.refl _) (st.val rfl)⟩
theorem xe_sumU {p pos : Pos} {e : Expr} {wa : (List Int → S → Prop) → Prop} (hm : mg "sum" = none) (ha : XE M O Γ s e (fz (pU K pI)) wa) (hg : GlN sc "sum" := by rfl) (hs : NoStar e := by intro _ _; rfl) :
    XE M O Γ s (.Call (.Name "sum" p) [e] [] pos) (fz pI) (fun k => wa fun x s1 => k x.sum s1) :=
  xe_cb1 b_sum (fun i => by have h := cr_sumU (X := M.X i) (M.calm i); rw [M.kf i] at h; exact h) o_sumU hm hg ha (by decide) (by decide) hs
/-- t[:2] of a triple -/
theorem xe_head3 {β γ : Type} {rb : RP β} {rc : RP γ} {e : Expr} {hi : Option Expr} {p2 pos : Pos} {wa : (α × β × γ → S → Prop) → Prop} (ha : XE M O Γ s e (fz (pP3 K ra rb rc)) wa) (hl : ∀ s', XO M O Γ s' (none : Option Expr) (fun k => k none s')) (hh : ∀ s', XO M O Γ s' hi (fun k => k (some 2) s')) :
    XE M O Γ s (.Subscript e (.Slice none hi none p2) pos) (fz (pP K ra rb)) (fun k => wa fun x s1 => k (x.1, x.2.1) s1) := by
  intro HI C Q σ F H st hq hc
  refine ⟨tSl (rSlA K) (rdE M e) (rdO M none) (rdO M hi), fun i => (by have h := pe_slice (X := M.X i) (pos := pos) (p2 := p2) sl_tupA (rdE_ok (M := M) i (e := e)) (rdO_ok (M := M) i (e := none)) (rdO_ok (M := M) i (e := hi)); rw [M.kf i] at h; exact h), ha HI _ _ σ F H st (fun x s1 u F1 H1 c1 e1 sv1 => ?_) hc⟩
  obtain ⟨⟨a, u1, u2, u3, h1, h2, h3, h4, h5⟩, st1⟩ := sv1.fz
  refine hl s1 HI (fun l s2 => l = none ∧ s2 = s1) _ σ F1 H1 st1 (fun l s2 F2 H2 c2 e2 st2 => hh s2 HI (fun h s3 => h = some 2 ∧ s3 = s1) _ σ F2 H2 st2 (fun h s3 F3 H3 c3 e3 st3 => ?_) ⟨rfl, c2.2⟩) ⟨rfl, rfl⟩
  obtain ⟨rfl, rfl⟩ := c2
  obtain ⟨rfl, rfl⟩ := c3
  refine ⟨a, [u1, u2, u3], h1, SqT.mono ((e2.trans e3).trans st3.ok) h2, fun hw => ?_, fun _ p hp => ?_⟩
  · exact absurd hw.2 (show ¬ HT.sIx 3 3 (some 2) = 3 by decide)
  · obtain ⟨e4, st4⟩ := st3.newF (o := .tup (cutV [u1, u2, u3] none (some 2))) hp
    exact hq _ s3 _ _ _ c1 (e1.trans (e2.trans (e3.trans e4))) (st4.val ⟨p, u1, u2, rfl, .inl (.inl upd_same), ra.mono (e2.trans (e3.trans e4)) h3, rb.mono (e2.trans (e3.trans e4)) h4⟩)
theorem cLT : Cmp (dL (dT (K := K))) := ⟨sL sT, fun x e => PyData.noConfusion e, by exact Nat.le_of_ble_eq_true rfl⟩
/-- int of a text -/
def intT (x : Text) : Option Int := PySem.intText? ⟨x.toArray⟩
theorem o_intT : Op1 (fun u => (fun xs H Q => ∃ a n, xs = [.str a] ∧ PySem.intText? a = some n ∧ a.length ≤ 640 ∧ Q (.int n) H : List V → Hp → VK → Prop) [u]) pT (fz pI) (fun x k => ∃ n, intT x = some n ∧ x.length ≤ 640 ∧ k n) :=
  fun O HI Γ s σ F H x u C Q st h hq ⟨n, h1, h2, hc⟩ => ⟨⟨x.toArray⟩, n, by rw [h.1], h1, h2, hq _ _ F H hc (Same.refl _) (st.val rfl)⟩
theorem xe_intT {p pos : Pos} {e : Expr} {wa : (Text → S → Prop) → Prop} (hm : mg "int" = none) (ha : XE M O Γ s e (fz pT) wa) (hg : GlN sc "int" := by rfl) (hs : NoStar e := by intro _ _; rfl) :
    XE M O Γ s (.Call (.Name "int" p) [e] [] pos) (fz pI) (fun k => wa fun x s1 => ∃ n, intT x = some n ∧ x.length ≤ 640 ∧ k n s1) :=
  xe_ct1 b_int (fun i => call_int_str) o_intT hm hg ha (by decide) (by decide) hs
end
end Sm

set_option Elab.async false
set_option linter.all false
set_option maxRecDepth 100000
set_option maxHeartbeats 4000000
namespace Sm
open PySem PySem.Spec PyProof.Rows L2
section
variable {X : Cx}
/-- y = [.. for ..], what stands within wants a token -/
theorem pst_setLc {i : Nat} {y : Str} {py : Pos} {elt tg iter : Expr} {ifs : List Expr} {scope : Scope} {own : List (Str × Nat)} {pos spos : Pos} {wi : TI} {g : TG} {tt : TT} {te : TE} (hc : X.calm = true) (hN : X.N.Nodup) (hy : X.N[i]? = some y) (hyl : X.env.scope.names.lookup y = some .local)
    (hsw : swapsWith (.ListComp elt [⟨tg, iter, ifs, 0⟩] scope pos) (some (.Name y py)) spos.line X.env = pure true) (hi : PI X tg iter wi) (ok : BlkOk X.N X.env.scope scope own)
    (hg : ∀ (s : Shared) (H : Hp) (C : Addr) (cl : List (Str × Addr)) (fp : List Addr), PG (X.blk s H scope (compEnvC scope cl C X.env) fp) tg g) (ht : ∀ (s : Shared) (H : Hp) (C : Addr) (cl : List (Str × Addr)) (fp : List Addr), PTs (X.blk s H scope (compEnvC scope cl C X.env) fp) ifs tt)
    (he : ∀ (s : Shared) (H : Hp) (C : Addr) (cl : List (Str × Addr)) (fp : List Addr), PET (X.blk s H scope (compEnvC scope cl C X.env) fp) elt te) (hs : ∀ x, foldedSetIterable iter X.env x = pure x := by intro _; rfl) :
    PST X (.Assign [.Name y py] (.ListComp elt [⟨tg, iter, ifs, 0⟩] scope pos) spos) (tAsg (tLc wi g tt te (own.map (·.2))) (gName i)) := by
  intro pins s σ H D k0 I h
  rw [exec_Assign_Name_used _ _ _ _ hsw]
  refine wpAny_bind (wpAny_standAt (wpAny_bind ?_))
  show wpAny _ X.A (do let _ ← comprehension (.ListComp elt [⟨tg, iter, ifs, 0⟩] scope pos) scope X.env (firstIterPos [⟨tg, iter, ifs, 0⟩] pos) (newList []) false (eval iter X.env) (some (assign (.Name y py) X.env))) _ _ s
  have h : tLc wi g tt te (own.map (·.2)) σ H (fun x H1 => gName i x σ H1 D.nx) := h
  refine wpAny_bind (thn (lcT_core (Qf := fun _ s' => SP X pins D .next s') hc hN I hi ok hg ht k0 he hs h fun L C s' m H' I' q hn f => ?_) fun _ s' hq => wpAny_pure (wpAny_pure hq))
  show wpAny _ _ (assign (.Name y py) X.env (.ref L)) _ _ _
  refine wpAny_assign_Name (store_ok2 (v := V.ref L) I' hN hy (.inl hyl) rfl (fun s2 I2 ⟨a, sb, ha⟩ => ?_) (.inr hyl))
  obtain ⟨f0, f1, f2, f3, f4, f5⟩ := f
  have haC : C ≠ a := by
    rcases ha with z | z
    · rw [z]; exact f1
    · exact fun e => f4 y a z e.symm
  refine ⟨m, hn.sameBut sb haC, fun h3 sb3 => ?_⟩
  exact ⟨_, H', I2.turned (t' := s2.toks) (fun b o hb e => (sb3.2 b hb).trans e) f0 f1 f3 f4 f5, q⟩
end
section
variable {P : Program} {w : World} {K : PySem.W.Frag} {mg : Str → Option Value} {base : Heap} {N : List Str} {sc : Scope} {fn : Str → Bool} {k : Nat}
variable {M : Fm P w K mg base N sc fn k}
variable {S : Type} {O : S → Res} {Γ : Asrt} {s : S} {α β γ ρ : Type} {ra : RP α} {rb : RP β} {A : ρ → VA}
theorem xst_setLcT {HI F0 : Hp} {D : Ends} {y : Str} {py pos pos' : Pos} {rest : List Stmt} {tg iter elt : Expr} {scope : Scope} {L : List Nat} {g : α → Asrt → Asrt} {wi : (List α → S → Prop) → Prop} {we : α → S → (β → S → Prop) → Prop} {Pk : List β → S → Prop}
    (i : Nat) (own : List (Str × Nat)) (hi : XI M O Γ s tg iter ra wi) (hg : XGt (M.blk scope) tg ra g L) (he : ∀ x s', XET (M.blk scope) O (g x (wipeA Γ (own.map (·.2)))) s' elt (fz rb) (we x s'))
    (hk : ∀ z s', XSsT M O HI F0 (Γ.set i (some (ol rb z))) s' rest D (Pk z s'))
    (hN : N[i]? = some y := by rfl) (hx : sc.names.lookup y = some .local := by rfl) (ok : blkC N sc scope own = true := by decide +kernel) (hL : ∀ i ∈ L, i ∈ own.map (·.2) := by decide) (hΓ : Γ.length = N.length := by rfl) (hs : ∀ env x, foldedSetIterable iter env x = pure x := by intro _ _; rfl)
    (hl : (py.line == pos.line) = true := by rfl) (ha : (scope.names.any fun (n, k) => n == y && (k == .local || k == .cell)) = false := by decide +kernel) (hkd : sc.kind = .function := by rfl) :
    XSsT M O HI F0 Γ s (.Assign [.Name y py] (.ListComp elt [⟨tg, iter, [], 0⟩] scope pos) pos' :: rest) D (wi fun xs s1 => xs.length ≤ sizeLine ∧ compW (fun x s k => we x s fun y s2 => k (some y) s2) Pk xs s1 []) := by
  intro σ F H e0 st hp
  have hiN : i < N.length := (List.getElem?_eq_some_iff.mp hN).1
  refine ⟨_, fun j => psst_cons (pst_setLc (i := i) (own := own) (M.calm j) (by rw [M.nn]; exact M.nd) (by rw [M.nn]; exact hN) (by rw [M.scp]; exact hx) (sw_true (by rw [M.scp]; exact hkd) (by rw [M.scp]; exact hx) hl ha) (rdI_ok j) (by rw [M.nn, M.scp]; exact blkOk_by ok)
    (fun s0 H0 C0 cl fp => rdG_ok (M := M.blk scope) (j, s0, H0, C0, cl, fp)) (fun s0 H0 C0 cl fp => rdTs_ok (M := M.blk scope) (j, s0, H0, C0, cl, fp)) (fun s0 H0 C0 cl fp => rdET_ok (M := M.blk scope) (j, s0, H0, C0, cl, fp)) (hs _)) (rdSsT_ok j), ?_⟩
  have q : tLc (rdI M tg iter) (rdG (M.blk scope) tg) (rdTs (M.blk scope) []) (rdET (M.blk scope) elt) (own.map (·.2)) σ H (fun v H' => rdSsT M rest D (σ.set i (some v)) H') :=
    lc_runV (C := Pk) hi hg hL hΓ (fun x s' => xts_nil) he st (fun ys s' v F' H' c e1 sv => hk ys s' _ F' H' (e0.trans e1) (Stt.put sv (by rw [hΓ]; exact hiN)) c) (by simpa using hp)
  exact q
theorem xst_if {HI F0 : Hp} {nx rt bk ct} {c : Expr} {a rest : List Stmt} {pos : Pos} {wc : (Bool → S → Prop) → Prop} {Pa Pb : S → Prop} (hc : XT M O Γ s c wc)
    (ha : ∀ nx' s', XSs M O HI F0 Γ s' a { nx := nx', rt := rt, bk := bk, ct := ct } (Pa s')) (hb : ∀ s', XSsT M O HI F0 Γ s' rest { nx := nx, rt := rt, bk := bk, ct := ct } (Pb s')) :
    XSsT M O HI F0 Γ s (.If c a [] pos :: rest) { nx := nx, rt := rt, bk := bk, ct := ct } (wc fun x s1 => if x = true then Pa s1 else Pb s1) := by
  intro σ F H e0 st hp
  refine ⟨_, fun j => psst_cons (PST.of (ps_if (rdT_ok j) (rdSs_ok j) pss_nil)) (rdSsT_ok j), hc HI _ _ σ F H st (fun x s' F' H' c e1 st1 => ?_) hp⟩
  cases x with
  | true => exact iteT (ha _ s' σ F' H' (e0.trans e1) st1 (by simpa using c))
  | false => exact iteF (hb s' σ F' H' (e0.trans e1) st1 (by simpa using c))
theorem xst_for {HI F0 : Hp} {nx rt bk ct} {tg iter : Expr} {body rest : List Stmt} {pos : Pos} {g : α → Asrt → Asrt} {L : List Nat} {wi : (List α → S → Prop) → Prop} {B : α → γ → S → (γ → S → Prop) → (γ → S → Prop) → Prop} {Pk : γ → S → Prop}
    (Γi : γ → Asrt) (c0 : γ) (hi : XI M O Γ s tg iter ra wi) (hg : XGt M tg ra g L) (h0 : Le Γ (Γi c0))
    (hb : ∀ F1, Same F0 F1 → ∀ x c kn kb s', XSs M O HI F1 (g x (Γi c)) s' body { nx := nxJ O HI F1 Γi kn, rt := rt, bk := nxJ O HI F0 Γi kb, ct := nxJ O HI F1 Γi kn } (B x c s' kn kb))
    (hk : ∀ c s', XSsT M O HI F0 (Γi c) s' rest { nx := nx, rt := rt, bk := bk, ct := ct } (Pk c s')) (hΓ : ∀ c, (Γi c).length = N.length := by intro _; rfl) (hs : ∀ env x, foldedSetIterable iter env x = pure x := by intro _ _; rfl) :
    XSsT M O HI F0 Γ s (.For tg iter body [] pos :: rest) { nx := nx, rt := rt, bk := bk, ct := ct } (wi fun xs s1 => forB B Pk xs c0 s1) := by
  intro σ F H e0 st hp
  refine seqJT (R := nxJ O HI F0 Γi Pk) (fun σ' H' ⟨z, s', F', p, e, st'⟩ => hk z s' σ' F' H' e st' p) ?_
  refine ⟨_, fun j => ps_for (M.pass j) (M.calm j) (rdI_ok j) (rdG_ok j) (rdSs_ok j) (hs _), hi HI _ _ σ F H st (fun xs s1 J F1 H1 c1 e1 st1 jk => ?_) hp⟩
  let I : Nat → L2.St → Hp → Prop := fun i σ H => ∃ c s' F', Same F1 F' ∧ Stt O HI (Γi c) s' σ F' H ∧ forB B Pk (xs.drop i) c s'
  refine ⟨fun i m σ H => m = xs.length - i ∧ i ≤ xs.length ∧ I i σ H, ⟨xs.length, by simp, Nat.zero_le _, c0, s1, F1, Same.refl _, st1.le h0, c1⟩, ?_⟩
  rintro i m σ2 H2 ⟨rfl, hi', c, s', F', e2, st2, fw⟩
  obtain ⟨h1, h2, sa, so, ok⟩ := id st2
  obtain ⟨j1, j2⟩ := jk F' e2 HI _ H2 ok
  by_cases hlt : i < xs.length
  · have hx : xs[i]? = some xs[i] := List.getElem?_eq_getElem hlt
    obtain ⟨jgo, jy⟩ := j1 i _ hx
    rw [List.drop_eq_getElem_cons hlt] at fw
    refine .inr ⟨jgo, nxJ O HI F1 Γi (fun c' s' => forB B Pk (xs.drop (i + 1)) c' s'), fun σ' H' ⟨c', s5, F5, p5, e5, st5⟩ => ?_, fun v H3 hy => ?_⟩
    · exact ⟨xs.length - (i + 1), by omega, rfl, hlt, c', s5, F5, e5, st5, p5⟩
    · obtain ⟨F3, e3, ok3, rv⟩ := jy v H3 hy
      have st3 : Stt O HI (Γi c) s' σ2 F3 H3 := ⟨h1, h2, sa.mono e3, (O s').mono e3 so, ok3⟩
      refine hg.run O HI _ s' σ2 F3 H3 xs[i] v _ (hΓ c) st3 rv fun σ4 l4 o4 st4 => ?_
      exact hb F1 (e0.trans e1) xs[i] c _ _ s' σ4 F3 H3 (e2.trans e3) st4 fw
  · have e : i = xs.length := by omega
    subst e
    rw [List.drop_length] at fw
    exact .inl ⟨j2, c, s', F', fw, e0.trans (e1.trans e2), st2⟩
end
end Sm

set_option Elab.async false
set_option linter.all false
set_option maxRecDepth 100000
set_option maxHeartbeats 4000000
namespace Sm
open PySem PySem.Spec PyProof.Rows L2
/-! ### xs.count(x), a list of any data -/
def rCntD (K : PySem.W.Frag) : V → List V → Hp → VK → Prop := fun x xs H Q => ∃ (p : Addr) (bs : List (V × PyData)) (y : V) (d : PyData), x = .ref p ∧ xs = [y] ∧ SqL K H p (bs.map (·.1)) ∧ DpAll K H (bs.map (·.1)) (bs.map (·.2)) ∧ Dp K H y d ∧
  PyData.plainAll (bs.map (·.2)) = true ∧ d.plain = true ∧ d.depth ≤ 60 ∧ Q (.int (((bs.map (·.2)).countP fun z => PyData.eqv z d : Nat) : Int)) H
theorem mt_lcountD {X : Cx} (hu : X.A.units + 64 < cLine) : MtR X "list.count" (rCntD X.K) := by
  intro pins s σ H x xs v us Q I rx rxs h
  obtain ⟨p, bs, y, d, rfl, rfl, hs, hd, hy, hp1, hp2, hdep, q⟩ := h
  cases rx
  obtain ⟨u, rfl, ru⟩ := rxs.one
  obtain ⟨its, rv, hl, hz⟩ := I.list hs
  obtain ⟨as, hr⟩ := Dp.readsAll I _ _ its hd rv
  obtain ⟨as', hr'⟩ := Dp.reads I _ _ u hy ru
  refine PySem.SeqAt.count_list_data hl.isList hr hr' hp1 hp2 (by omega) ?_
  exact ⟨.int _, H, I.tok _, ⟨s.toks, rfl⟩, q⟩
section
variable {P : Program} {w : World} {K : PySem.W.Frag} {mg : Str → Option Value} {base : Heap} {N : List Str} {sc : Scope} {fn : Str → Bool} {k : Nat}
variable {M : Fm P w K mg base N sc fn k}
variable {S : Type} {O : S → Res} {Γ : Asrt} {s : S} {α β γ ρ : Type} {ra : RP α} {rb : RP β} {rc : RP γ} {A : ρ → VA}
theorem plain_can : ∀ {xs : List PyData}, (∀ d ∈ xs, d.canLay0 = true) → PyData.plainAll xs = true
  | [], _ => by simp [PyData.plainAll]
  | d :: xs, h => by
    simp only [PyData.plainAll, Bool.and_eq_true]
    exact ⟨PyData.plain_of_canLay0 d (h d List.mem_cons_self), plain_can fun x hx => h x (List.mem_cons_of_mem _ hx)⟩
/-- how often -/
def lcD {α : Type} [DecidableEq α] (xs : List α) (y : α) : Int := ((xs.countP fun z => decide (z = y) : Nat) : Int)
theorem count_eqv [DecidableEq α] (D : Dat K ra) (y : α) : ∀ xs : List α, (xs.map D.d).countP (fun z => PyData.eqv z (D.d y)) = xs.countP fun z => decide (z = y)
  | [] => rfl
  | x :: xs => by
    rw [List.map_cons, List.countP_cons, List.countP_cons, count_eqv D y xs, D.eq]
theorem lcD_count {α : Type} [DecidableEq α] [BEq α] [LawfulBEq α] (xs : List α) (y : α) : lcD xs y = ((xs.count y : Nat) : Int) := by
  unfold lcD List.count
  congr 1
  congr 1
  funext z
  rw [Bool.eq_iff_iff, decide_eq_true_iff, beq_iff_eq]
theorem xe_lcountD [DecidableEq α] {o e : Expr} {ap cp : Pos} {wa : (List α → S → Prop) → Prop} {wb : S → (α → S → Prop) → Prop} (D : Dat K ra) (ha : XE M O Γ s o (fz (pL K ra)) wa) (hb : ∀ s', XE M O Γ s' e (fz ra) (wb s')) (hn : D.n ≤ 60 := by exact Nat.le_of_ble_eq_true rfl) (hns : NoStar e := by intro _ _; rfl)
    (hfew : ∀ env, ((backTo cp (starEach [e] env)).all (fun x => !x.1) && (backToKw cp (keywordEach [] env)).all (fun x => x.1.isSome) && decide ([e].length + ([] : List Keyword).length + (if ([] : List Keyword).isEmpty then 0 else 1) < 30)) = true := by intro _; rfl)
    (hbase : ∀ env, attributeBase o "count" env (eval o env) = eval o env := by intro _; rfl) (hline : (ap.endLine == cp.line) = true := by rfl) :
    XE M O Γ s (.Call (.Attribute o "count" ap) [e] [] cp) (fz pI) (fun k => wa fun x s1 => wb s1 fun y s2 => k (lcD x y) s2) := by
  intro HI C Q σ F H st hq hc
  refine ⟨tBM K "list" (rCntD K) (rdE M o) (tCons (rdE M e) tNil), fun j => (by
    have h := pe_bm (X := M.X j) (cpos := cp) PySem.F.plainAttrs_list PySem.F.slot_list_count PySem.F.type_list_count (mt_lcountD (M.room j).units) (rdE_ok (M := M) j (e := o)) (pa_cons (rdE_ok (M := M) j) pa_nil (hns _ _)) (hbase _) (hfew _) hline (hns _ _) rfl
    rw [M.kf j] at h; exact h), ha HI _ _ σ F H st (fun x s1 u F1 H1 c1 e1 sv1 => ?_) hc⟩
  obtain ⟨⟨a, vs, rfl, hS, al⟩, st1⟩ := sv1.fz
  refine ⟨.inl ⟨rfl, vs, SqL.mono st1.ok hS⟩, ?_⟩
  refine hb s1 HI _ _ σ F1 H1 st1 (fun y s2 v F2 H2 c2 e2 sv2 => ?_) c1
  obtain ⟨ry, st2⟩ := sv2.fz
  obtain ⟨bs, b1, b2, b3, T, t1, t2, t3⟩ := all2_dp D (e2.trans st2.ok) al
  obtain ⟨dy, cy⟩ := D.dp st2.ok ry
  refine ⟨a, bs, v, D.d y, rfl, rfl, by rw [b1]; exact SqL.mono (e2.trans st2.ok) hS, by rw [b1, b2]; exact b3, dy, by
    rw [b2]
    refine plain_can fun d hd => ?_
    rw [← t1, List.map_map] at hd
    obtain ⟨t, ht, rfl⟩ := List.mem_map.mp hd
    exact (D.dp (e2.trans st2.ok) (t3 t ht)).2, PyData.plain_of_canLay0 _ cy, Nat.le_trans (D.dep y) hn, ?_⟩
  rw [b2, count_eqv]
  exact hq _ s2 _ F2 H2 c2 (e1.trans e2) (st2.val rfl)
end
end Sm

set_option Elab.async false
set_option linter.all false
set_option maxRecDepth 100000
set_option maxHeartbeats 8000000
/-! set(xs) of a list of numbers, set(t) of a tuple of texts -/
namespace Sm
open PySem PySem.Spec PyProof.Rows L2
/-- a set newly made -/
abbrev nob (led : Bool) : Obj := { cls := .type "set", dict := none, data := .set #[] 0 (.fresh 0 0 led) }
section
variable {P : Program} {w : World} {A : Around} {E : Value → Shared → Prop} {s : Shared}
set_option maxRecDepth 100000 in
theorem set_lstI {l : Addr} {items : Array Value} (ns : List Int) {Q : Value → Shared → Prop} (hA : A.handled = none) (hl : s.heap.IsList l items) (hi : IntsAre items.toList ns) (hb : ns.length + 1 < scanBound)
    (h : ∀ (hp : Heap) (tk c : Nat), SetR w hp s.heap.objs.size (fun j => decide (j ∈ ns)) c → c ≤ ns.length → (∀ b o, s.heap.get? b = some o → hp.get? b = some o) → Q (.ref s.heap.objs.size) { s with heap := hp, toks := tk }) :
    wpAny (model P w) A (call (.type "set") [.ref l]) Q E s := by
  have isz : items.size = ns.length := by have q := IntsAre.length hi; rwa [Array.length_toList] at q
  obtain ⟨cx, tl, hmro⟩ := F.called_set.mro
  have hm := F.called_set.made
  have hs := F.called_set.sub
  refine wpAny_call (codeAny_of_tree ?_)
  show wpAny _ _ (callAny (.type "set") _) _ _ _
  refine wpAny_pure ⟨Code.quiet_builtin _ (by decide +kernel), codeAny_builtin F.entry_type_call ?_⟩
  rw [Around.under_plain (weight_type_call_type "set" [.ref l] []) rfl]
  have g1 := F.called_set.notType
  have g2 := F.called_set.canCreate
  have g3 := F.typeCall_set_1 (.ref l)
  repeat (any_goals (first | assumption | wp_step))
  refine codeAny_mono (code_set_led1 (.ref l) (E := E) (Q₁ := fun ob sx => ob = .ref s.heap.objs.size ∧ sx = { s with heap := s.heap.push (nob (!w.params.followText "set-order")) }) ⟨rfl, rfl⟩) fun r sx hr => ?_
  rcases r with e | fl
  · exact hr
  cases fl with
  | ret ob =>
    obtain ⟨rfl, rfl⟩ := hr
    have o0 : (s.heap.push (nob (!w.params.followText "set-order"))).get? s.heap.objs.size = some (nob (!w.params.followText "set-order")) := Heap.get?_push_size _ rfl
    have hT : Shared.TypeIs { s with heap := s.heap.push (nob (!w.params.followText "set-order")) } (.ref s.heap.objs.size) "set" := ⟨_, o0, rfl⟩
    have g4 := F.called_set.init.lookup
    have g5 := F.called_set.init.bind (.ref s.heap.objs.size)
    repeat (any_goals (first | assumption | wp_step))
    refine codeAny_mono (codeAny_call_builtin (R := wants (fun r s2 => r = .none ∧ ∃ hp tk c, s2 = { s with heap := hp, toks := tk } ∧ SetR w hp s.heap.objs.size (fun j => decide (j ∈ ns)) c ∧ c ≤ ns.length ∧ (∀ b o, s.heap.get? b = some o → hp.get? b = some o)) E) F.called_set.init.plain F.entry_set_init (check_set_init_1 hT ?_)) fun r2 s2 hr2 => ?_
    · obtain ⟨⟨c1, d1, x1, y1⟩, ol, e1, nl, e2⟩ := hl
      simp only at e1 e2
      subst e1; subst e2
      have ol' : (s.heap.push (nob (!w.params.followText "set-order"))).get? l = some { cls := .type "list", dict := d1, data := .seq items nl, slots := y1 } := Heap.get?_push_of_some _ ol
      have k1 := F.sub_list_set
      have k2 := F.sub_list_frozenset
      have k3 : (Value.type "list" == Value.type "dict") = false := by decide
      have hl1 : (s.heap.push (nob (!w.params.followText "set-order"))).IsList l items := ⟨_, ol', rfl, nl, rfl⟩
      unfold Builtin.«set.__init__» noKeywords Builtin.Frozenset.updateFrom
      generalize hPI : pyIter = PI
      wp_walk
      subst hPI
      refine wpAny_pyIter_list hl1 (wpAny_bind (wpAny_runValue ?_))
      have lS : l < s.heap.objs.size := Heap.lt_size ol
      have hA3 : A.in1.in1.in1.handled = none := by simp [hA]
      have ne : l ≠ (s.heap.push (nob (!w.params.followText "set-order"))).objs.size := by rw [Heap.size_push]; exact Nat.ne_of_lt (Nat.lt_succ_of_lt lS)
      have hS : s.heap.objs.size ∉ [(s.heap.push (nob (!w.params.followText "set-order"))).objs.size, l] := by
        rw [Heap.size_push]
        simp only [List.mem_cons, List.not_mem_nil, or_false, not_or]
        exact ⟨Nat.ne_of_lt (Nat.lt_succ_self _), Nat.ne_of_gt lS⟩
      have hv : ∀ (i : Nat) (v : Value), items[i]? = some v → ∃ k t, ns[i]? = some k ∧ v = .int k t := fun i v hx => by
        have hin : i < ns.length := by rw [← isz]; exact (Array.getElem?_eq_some_iff.mp hx).1
        obtain ⟨t, e⟩ := IntsAre.int_at hi i v (by rw [Array.getElem?_toList]; exact hx)
        refine ⟨ns[i], t, List.getElem?_eq_getElem hin, ?_⟩
        rw [e, List.getD_eq_getElem?_getD, List.getElem?_eq_getElem hin] <;> rfl
      refine set_update_ints ((Walks.list hA3 _ l ne items).toS) s.heap.objs.size hS ns isz hb hv (items.size - 0) 0 _ (by omega) (Nat.zero_le _) ⟨⟨_, Heap.get?_push_size _ rfl, rfl, rfl⟩, hl1.push _⟩ ⟨0, Nat.le_refl 0, setR_new_at (Heap.get?_push_of_some _ o0)⟩ fun s3 c3 mv hc3 hS3 => ?_
      obtain ⟨h3, g3', d3, t3, os3⟩ := s3
      have a1 : g3' = s.gens := mv.gens
      have a2 : d3 = s.drawn := mv.drawn
      have a3 : os3 = s.os := mv.os
      subst a1; subst a2; subst a3
      show wpAny _ _ _ _ _ _
      refine wpAny_pure ?_
      show wpAny _ _ (ret Value.none) _ _ _
      rw [isz] at hc3
      refine wpAny_pure ⟨rfl, h3, t3, c3, rfl, hS3, hc3, fun b o e => ?_⟩
      have hbs : b < s.heap.objs.size := Heap.lt_size e
      refine mv.heap b o ?_ (Heap.get?_push_of_some _ (Heap.get?_push_of_some _ e))
      rw [Heap.size_push]
      simp only [List.mem_cons, List.not_mem_nil, or_false, not_or]
      exact ⟨Nat.ne_of_lt hbs, Nat.ne_of_lt (Nat.lt_succ_of_lt hbs)⟩
    · rcases r2 with e | fl2
      · exact hr2
      cases fl2 with
      | ret r =>
        obtain ⟨rfl, hp, tk, c, rfl, q1, q2, q3⟩ := hr2
        repeat (any_goals (first | assumption | wp_step))
        exact h _ _ _ q1 q2 q3
      | _ => exact hr2.elim
  | _ => exact hr.elim
theorem set_loopS {I : Addr} {fp wr : List Addr} {G : Array GenState → Array GenState → Prop} {n : Nat} {Pv : Nat → Value → Prop} {St : Nat → Shared → Prop} {R : Result → Shared → Prop}
    (W : WalksS P w A.in1 I fp wr G n Pv St) (a : Addr) (ha : a ∉ fp) (ns : List Str) (nd : ns.Nodup) (hn : n = ns.length) (hb : ns.length + 1 < scanBound) (hv : ∀ i v, Pv i v → ∃ k t, ns[i]? = some k ∧ v = .str k t) :
    ∀ (m i : Nat) (s : Shared), n - i = m → i ≤ n → St i s → s.heap.SetOf (PySem.strKind P w) a (fun j => decide (j ∈ ns.take i)) i →
      (∀ s', Moved (a :: wr) G s s' → s'.heap.SetOf (PySem.strKind P w) a (fun j => decide (j ∈ ns)) ns.length → R (.ok (.ret .none)) s') →
      codeAny (model P w) A (.builtin "set.update.loop" ⟨[.ref a, .ref I], []⟩) R s := by
  have aw : a ∉ wr := fun q => ha (W.sub _ q)
  have up : ∀ b ∈ wr, b ∈ a :: wr := fun b q => List.mem_cons_of_mem _ q
  intro m
  induction m with
  | zero =>
    intro i s h0 hi st hS hR
    obtain rfl : i = n := by omega
    refine codeAny_builtin F.entry_set_update_loop ?_
    rw [Around.under_plainId F.plain_set_update_loop _]
    show wpAny _ A.in1 (pyNext (.ref I) >>= _) _ _ s
    refine wpAny_bind (W.done s _ _ st fun s' mv => ?_)
    show wpAny _ A.in1 (ret Value.none) _ _ s'
    rw [hn, List.take_length] at hS
    obtain ⟨o, es, ep, tb, ho, rest⟩ := hS
    exact wpAny_pure (hR s' (mv.mono up) ⟨o, es, ep, tb, mv.heap a _ aw ho, rest⟩)
  | succ m ih =>
    intro i s h0 hi st hS hR
    have lt : i < n := by omega
    refine codeAny_builtin F.entry_set_update_loop ?_
    rw [Around.under_plainId F.plain_set_update_loop _]
    show wpAny _ A.in1 (pyNext (.ref I) >>= _) _ _ s
    refine wpAny_bind (W.item i s _ _ lt st fun v s' hP st' mv => ?_)
    obtain ⟨z, t, hz, rfl⟩ := hv i v hP
    have hS' : s'.heap.SetOf (PySem.strKind P w) a (fun j => decide (j ∈ ns.take i)) i := by
      obtain ⟨o, es, ep, tb, ho, rest⟩ := hS
      exact ⟨o, es, ep, tb, mv.heap a _ aw ho, rest⟩
    have new : z ∉ ns.take i := fun q => by
      obtain ⟨j, hj, e⟩ := List.mem_take_iff_getElem.mp q
      obtain ⟨hi2, e2⟩ := List.getElem?_eq_some_iff.mp hz
      have := (List.pairwise_iff_getElem.mp nd) j i (by omega) hi2 (by omega)
      exact this (e.trans e2.symm)
    show wpAny _ A.in1 (holding [Value.str z t] (setAdd a (.str z t)) >>= _) _ _ s'
    refine wpAny_bind (wpAny_holding ?_)
    unfold setAdd
    refine wpAny_holding ?_
    refine wpAny_bind ((PySem.strKind P w).pyHash (k := z) (strKind_is _ _ _ _) ?_)
    refine wpAny_setAddHashed_of (knd := PySem.strKind P w) (s := { s' with toks := s'.toks + 1 }) (strKind_is _ _ _ _) rfl hS' (by omega) fun h' same hS2 => ?_
    have hS3 : h'.SetOf (PySem.strKind P w) a (fun j => decide (j ∈ ns.take (i + 1))) (i + 1) := by
      refine SetOf_congr hS2 (fun j => ?_) (by simp [new])
      rw [List.take_add_one, hz]
      simp [List.mem_append]
    refine wpAny_pure ⟨plainId_quiet F.plain_set_update_loop _, ih (i + 1) _ (by omega) lt (W.frame _ s' _ _ st' (Nat.le_succ _) fun b hb' o e => ?_) hS3 fun s'' mv2 hS4 => hR s'' (Moved.trans W.gtrans ((mv.mono up).then_heap (Nat.le_succ _) fun b o hb' e => ?_) mv2) hS4⟩
    · rw [same.2 b (fun q : b = a => ha (by rw [← q]; exact hb'))]; exact e
    · rw [same.2 b (fun q : b = a => hb' (by rw [q]; exact List.mem_cons_self))]; exact e
set_option maxRecDepth 100000 in
theorem set_tupS {l : Addr} {items : Array Value} (ns : List Str) {Q : Value → Shared → Prop} (hA : A.handled = none) (hl : s.heap.IsTuple l items) (hi : StrsAre items.toList ns) (nd : ns.Nodup) (hb : ns.length + 1 < scanBound)
    (h : ∀ (hp : Heap) (tk : Nat), hp.SetOf (PySem.strKind P w) s.heap.objs.size (fun j => decide (j ∈ ns)) ns.length → (∀ b o, s.heap.get? b = some o → hp.get? b = some o) → Q (.ref s.heap.objs.size) { s with heap := hp, toks := tk }) :
    wpAny (model P w) A (call (.type "set") [.ref l]) Q E s := by
  have isz : items.size = ns.length := by have q := StrsAre.len_eq hi; rwa [Array.length_toList] at q
  obtain ⟨cx, tl, hmro⟩ := F.called_set.mro
  have hm := F.called_set.made
  have hs := F.called_set.sub
  refine wpAny_call (codeAny_of_tree ?_)
  show wpAny _ _ (callAny (.type "set") _) _ _ _
  refine wpAny_pure ⟨Code.quiet_builtin _ (by decide +kernel), codeAny_builtin F.entry_type_call ?_⟩
  rw [Around.under_plain (weight_type_call_type "set" [.ref l] []) rfl]
  have g1 := F.called_set.notType
  have g2 := F.called_set.canCreate
  have g3 := F.typeCall_set_1 (.ref l)
  repeat (any_goals (first | assumption | wp_step))
  refine codeAny_mono (code_set_led1 (.ref l) (E := E) (Q₁ := fun ob sx => ob = .ref s.heap.objs.size ∧ sx = { s with heap := s.heap.push (nob (!w.params.followText "set-order")) }) ⟨rfl, rfl⟩) fun r sx hr => ?_
  rcases r with e | fl
  · exact hr
  cases fl with
  | ret ob =>
    obtain ⟨rfl, rfl⟩ := hr
    have o0 : (s.heap.push (nob (!w.params.followText "set-order"))).get? s.heap.objs.size = some (nob (!w.params.followText "set-order")) := Heap.get?_push_size _ rfl
    have hT : Shared.TypeIs { s with heap := s.heap.push (nob (!w.params.followText "set-order")) } (.ref s.heap.objs.size) "set" := ⟨_, o0, rfl⟩
    have g4 := F.called_set.init.lookup
    have g5 := F.called_set.init.bind (.ref s.heap.objs.size)
    repeat (any_goals (first | assumption | wp_step))
    refine codeAny_mono (codeAny_call_builtin (R := wants (fun r s2 => r = .none ∧ ∃ hp tk, s2 = { s with heap := hp, toks := tk } ∧ hp.SetOf (PySem.strKind P w) s.heap.objs.size (fun j => decide (j ∈ ns)) ns.length ∧ (∀ b o, s.heap.get? b = some o → hp.get? b = some o)) E) F.called_set.init.plain F.entry_set_init (check_set_init_1 hT ?_)) fun r2 s2 hr2 => ?_
    · obtain ⟨⟨c1, d1, x1, y1⟩, ol, e1, nl, e2⟩ := hl
      simp only at e1 e2
      subst e1; subst e2
      have ol' : (s.heap.push (nob (!w.params.followText "set-order"))).get? l = some { cls := .type "tuple", dict := d1, data := .seq items nl, slots := y1 } := Heap.get?_push_of_some _ ol
      have k1 := F.sub_tuple_set
      have k2 := F.sub_tuple_frozenset
      have k3 : (Value.type "tuple" == Value.type "dict") = false := by decide
      have hl1 : (s.heap.push (nob (!w.params.followText "set-order"))).IsTuple l items := ⟨_, ol', rfl, nl, rfl⟩
      unfold Builtin.«set.__init__» noKeywords Builtin.Frozenset.updateFrom
      generalize hPI : pyIter = PI
      wp_walk
      subst hPI
      refine wpAny_pyIter_tuple hl1 (wpAny_bind (wpAny_runValue ?_))
      have lS : l < s.heap.objs.size := Heap.lt_size ol
      have hA3 : A.in1.in1.in1.handled = none := by simp [hA]
      have ne : l ≠ (s.heap.push (nob (!w.params.followText "set-order"))).objs.size := by rw [Heap.size_push]; exact Nat.ne_of_lt (Nat.lt_succ_of_lt lS)
      have hS : s.heap.objs.size ∉ [(s.heap.push (nob (!w.params.followText "set-order"))).objs.size, l] := by
        rw [Heap.size_push]
        simp only [List.mem_cons, List.not_mem_nil, or_false, not_or]
        exact ⟨Nat.ne_of_lt (Nat.lt_succ_self _), Nat.ne_of_gt lS⟩
      have hv : ∀ (i : Nat) (v : Value), items[i]? = some v → ∃ k t, ns[i]? = some k ∧ v = .str k t := fun i v hx => by
        have hin : i < ns.length := by rw [← isz]; exact (Array.getElem?_eq_some_iff.mp hx).1
        obtain ⟨t, e⟩ := SS.strs_at hi i v (by rw [Array.getElem?_toList]; exact hx)
        refine ⟨ns[i], t, List.getElem?_eq_getElem hin, ?_⟩
        rw [e, List.getD_eq_getElem?_getD, List.getElem?_eq_getElem hin] <;> rfl
      refine set_loopS ((Walks.tuple hA3 _ l ne items).toS) s.heap.objs.size hS ns nd isz hb hv (items.size - 0) 0 _ (by omega) (Nat.zero_le _) ⟨⟨_, Heap.get?_push_size _ rfl, rfl, rfl⟩, hl1.push _⟩ (SetOf_congr ((setObjOf_fresh (knd := PySem.strKind P w) _).setOf (Heap.get?_push_of_some _ o0) (by unfold scanBound; omega)) (fun _ => by simp) rfl) fun s3 mv hS3 => ?_
      obtain ⟨h3, g3', d3, t3, os3⟩ := s3
      have a1 : g3' = s.gens := mv.gens
      have a2 : d3 = s.drawn := mv.drawn
      have a3 : os3 = s.os := mv.os
      subst a1; subst a2; subst a3
      show wpAny _ _ _ _ _ _
      refine wpAny_pure ?_
      show wpAny _ _ (ret Value.none) _ _ _
      refine wpAny_pure ⟨rfl, h3, t3, rfl, hS3, fun b o e => ?_⟩
      have hbs : b < s.heap.objs.size := Heap.lt_size e
      refine mv.heap b o ?_ (Heap.get?_push_of_some _ (Heap.get?_push_of_some _ e))
      rw [Heap.size_push]
      simp only [List.mem_cons, List.not_mem_nil, or_false, not_or]
      exact ⟨Nat.ne_of_lt hbs, Nat.ne_of_lt (Nat.lt_succ_of_lt hbs)⟩
    · rcases r2 with e | fl2
      · exact hr2
      cases fl2 with
      | ret r =>
        obtain ⟨rfl, hp, tk, rfl, q1, q3⟩ := hr2
        repeat (any_goals (first | assumption | wp_step))
        exact h _ _ q1 q3
      | _ => exact hr2.elim
  | _ => exact hr.elim
end
section
variable {X : Cx}
/-- sorted(set(xs)), a list of numbers of which few differ -/
def tSrtSet (K : PySem.W.Frag) (ta : TE) : TE := fun σ H Q => ta σ H fun x H1 => ∃ (l : Addr) (ns few : List Int), x = .ref l ∧ SqL K H1 l (ns.map V.int) ∧ ns.length ≤ 4000 ∧ few.length < 64 ∧ (∀ n ∈ ns, n ∈ few) ∧
  ∀ (ys : List Int) (p : Addr), ys.Pairwise (· < ·) → (∀ n, n ∈ ys ↔ n ∈ ns) → H1 p = none → Q (.ref p) (upd H1 p (.lst (ys.map V.int)))
theorem setR_few {w : World} {h : Heap} {a : Addr} {S : Int → Bool} {n : Nat} {few : List Int} (R : SetR w h a S n) (hf : ∀ k, S k = true → k ∈ few) : n ≤ few.length := by
  obtain ⟨o, es, ep, t, ho, hx, hd, g, nd, hm, hb, hft, hn, hr⟩ := R
  have := List.Nodup.length_le_of_subset nd fun k hk => hf k ((hm k).mpr hk)
  rw [List.length_map, Array.length_toList] at this
  omega
theorem pe_srtSet {a : Expr} {ta : TE} {p p2 q pos : Pos} (hc : X.calm = true) (hg : Gl X "sorted") (hm : X.mg "sorted" = none) (hg2 : Gl X "set") (hm2 : X.mg "set" = none) (ha : PE X a ta)
    (na : starEach [a] X.env = (false, eval a X.env) :: starEach [] X.env := by rfl) : PE X (.Call (.Name "sorted" p) [.Call (.Name "set" p2) [a] [] q] [] pos) (tSrtSet X.K ta) := by
  refine ⟨fun pins s σ H Q I h => ?_⟩
  refine Call_ (ld_blt I hg hm PyProof.Rows.boot_sorted ?_)
  refine PyProof.Rows.callWith_builtin1 (PyProof.Rows.args_cons ?_ rfl) rfl rfl
  refine Call_ (ld_blt I hg2 hm2 PyProof.Rows.boot_set ?_)
  refine PyProof.Rows.callWith_type1 (PyProof.Rows.args_cons (thn (ha.run pins s σ H _ I h) fun v s1 ⟨x, H1, I1, r1, q1⟩ => PyProof.Rows.args_nil ?_) na) na rfl
  obtain ⟨l, ns, few, rfl, hq, h1, h2, h3, q1⟩ := q1
  cases r1
  obtain ⟨its, r, pl, hz⟩ := I1.list hq
  refine set_lstI ns (I1.ok.hd hc) pl.isList (by simpa using ints_of_vals r) (by unfold scanBound; omega) fun hp tk c hR hcl hk => PyProof.Rows.args_nil ?_
  have I2 : Inv X pins σ H1 { s1 with heap := hp, toks := tk } := I1.kept fun b o e => hk b o e
  have few64 := setR_few hR (few := few) fun k hk => h3 k (of_decide_eq_true hk)
  refine sorted_set (s := { s1 with heap := hp, toks := tk }) hR (I2.ok.hd hc) (by omega) fun s' p' out c' ys k g o hp' hg' hi hs hmm hl => ?_
  have hlen : (ys.map V.int).length ≤ sizeLine := by rw [List.length_map, hl, sizeLine_eq]; omega
  have hn : H1 p' = none := I2.hok.fresh hp'
  have J : Inv X pins σ (upd H1 p' (.lst (ys.map V.int))) { ({ s1 with heap := hp, toks := tk } : Shared) with heap := s'.heap, gens := s'.gens, drawn := s'.drawn, toks := s'.toks } :=
    I2.call (ch := []) (Un.laid k hp' hn) (I2.hok.laid k hp' ⟨hlen, out.toList, c', vals_of_ints hi, hg'⟩) (by rw [g]; exact I2.bare) (fun _ z => nomatch z)
  have e : s' = { ({ s1 with heap := hp, toks := tk } : Shared) with heap := s'.heap, gens := s'.gens, drawn := s'.drawn, toks := s'.toks } := by
    cases s'
    cases s1
    cases o
    rfl
  rw [e]
  exact ⟨.ref p', _, J, rfl, q1 ys p' hs (fun n => by rw [hmm, decide_eq_true_iff]) hn⟩
end
section
variable {P : Program} {w : World} {K : PySem.W.Frag} {mg : Str → Option Value} {base : Heap} {N : List Str} {sc : Scope} {fn : Str → Bool} {k : Nat}
variable {M : Fm P w K mg base N sc fn k}
variable {S : Type} {O : S → Res} {Γ : Asrt} {s : S} {α β γ ρ : Type} {ra : RP α} {rb : RP β} {rc : RP γ} {A : ρ → VA}
theorem int_vals {F : Hp} : ∀ {ys : List Int}, All2 (fun x v => pI.r x v F) ys (ys.map V.int)
  | [] => trivial
  | _ :: _ => ⟨rfl, int_vals⟩
/-- few that differ -/
def fewI (xs : List Int) : Prop := xs.length ≤ 4000 ∧ ∃ few : List Int, few.length < 64 ∧ ∀ n ∈ xs, n ∈ few
theorem xe_srtSet {e : Expr} {p p2 q pos : Pos} {wa : (List Int → S → Prop) → Prop} (hm : mg "sorted" = none) (hm2 : mg "set" = none) (ha : XE M O Γ s e (fz (pL K pI)) wa) (hg : GlN sc "sorted" := by rfl) (hg2 : GlN sc "set" := by rfl) (hs : NoStar e := by intro _ _; rfl) :
    XE M O Γ s (.Call (.Name "sorted" p) [.Call (.Name "set" p2) [e] [] q] [] pos) (ol pI) (fun k => wa fun xs s1 => fewI xs ∧ ∀ ys : List Int, ys.Pairwise (· < ·) → (∀ n, n ∈ ys ↔ n ∈ xs) → k ys s1) := by
  intro HI C Q σ F H st hq hw
  refine ⟨tSrtSet K (rdE M e), fun i => (by have h := pe_srtSet (p := p) (p2 := p2) (q := q) (pos := pos) (M.calm i) (Gl.of hg i) (M.none hm i) (Gl.of hg2 i) (M.none hm2 i) (rdE_ok (M := M) i (e := e)) (hs _ _); rw [M.kf i] at h; exact h), ha HI _ _ σ F H st (fun x s1 u F1 H1 c1 e1 sv1 => ?_) hw⟩
  obtain ⟨⟨a, vs, rfl, hS, al⟩, st1⟩ := sv1.fz
  obtain ⟨⟨h1, few, h2, h3⟩, c1⟩ := c1
  have ev := ints_map al
  subst ev
  refine ⟨a, x, few, rfl, SqL.mono st1.ok hS, h1, h2, h3, fun ys q' g1 g2 hp => ?_⟩
  exact hq _ s1 _ F1 _ (c1 ys g1 g2) e1 (st1.newV hp ⟨q', _, rfl, rfl, int_vals⟩)
/-- len(set(t)), a tuple of texts of which no two are alike -/
def tLenSetU (K : PySem.W.Frag) (ta : TE) : TE := fun σ H Q => ta σ H fun x H1 => ∃ (l : Addr) (xs : List Str), x = .ref l ∧ SqT K H1 l (xs.map V.str) ∧ xs.length ≤ 4000 ∧ xs.Nodup ∧ Q (.int (xs.length : Nat)) H1
theorem pe_lenSetU {X : Cx} {a : Expr} {ta : TE} {p p2 q pos : Pos} (hc : X.calm = true) (hg : Gl X "len") (hm : X.mg "len" = none) (hg2 : Gl X "set") (hm2 : X.mg "set" = none) (ha : PE X a ta)
    (na : starEach [a] X.env = (false, eval a X.env) :: starEach [] X.env := by rfl) : PE X (.Call (.Name "len" p) [.Call (.Name "set" p2) [a] [] q] [] pos) (tLenSetU X.K ta) := by
  refine ⟨fun pins s σ H Q I h => ?_⟩
  refine Call_ (ld_blt I hg hm PySem.boot_len ?_)
  refine PyProof.Rows.callWith_builtin1 (PyProof.Rows.args_cons ?_ rfl) rfl rfl
  refine Call_ (ld_blt I hg2 hm2 PyProof.Rows.boot_set ?_)
  refine PyProof.Rows.callWith_type1 (PyProof.Rows.args_cons (thn (ha.run pins s σ H _ I h) fun v s1 ⟨x, H1, I1, r1, q1⟩ => PyProof.Rows.args_nil ?_) na) na rfl
  obtain ⟨l, xs, rfl, hq, h1, h2, q1⟩ := q1
  cases r1
  obtain ⟨its, r, pl, hz⟩ := I1.tuple hq
  refine set_tupS xs (I1.ok.hd hc) pl (by simpa using strsAre_of r) h2 (by unfold scanBound; omega) fun hp tk hS hk => PyProof.Rows.args_nil ?_
  have I2 : Inv X pins σ H1 { s1 with heap := hp, toks := tk } := I1.kept fun b o e => hk b o e
  obtain ⟨o, es, ep, t, ho, hex, hd, _, _, _, hf, hn⟩ := hS
  exact call_len_set ho hex hd hf (by rw [hn] <;> omega) ⟨.int xs.length, H1, I2.tok _, ⟨_, by rw [hn]⟩, q1⟩
def strOf (i : Text) : Str := ⟨i.toArray⟩
theorem strOf_inj {i j : Text} (h : strOf i = strOf j) : i = j := by
  have : i.toArray = j.toArray := congrArg (fun s : Str => s.1) h
  have := congrArg Array.toList this
  simpa using this
theorem txt_map {F : Hp} : ∀ {xs : List Text} {vs : List V}, All2 (fun x v => pT.r x v F) xs vs → vs = (xs.map strOf).map V.str
  | [], [], _ => rfl
  | x :: xs, v :: vs, ⟨h, t⟩ => by
    rw [List.map_cons, List.map_cons, ← txt_map t, h.1]; rfl
  | [], _ :: _, h => h.elim
  | _ :: _, [], h => h.elim
theorem xe_lenSetU {e : Expr} {p p2 q pos : Pos} {wa : (List Text → S → Prop) → Prop} (hm : mg "len" = none) (hm2 : mg "set" = none) (ha : XE M O Γ s e (fz (pU K pT)) wa) (hg : GlN sc "len" := by rfl) (hg2 : GlN sc "set" := by rfl) (hs : NoStar e := by intro _ _; rfl) :
    XE M O Γ s (.Call (.Name "len" p) [.Call (.Name "set" p2) [e] [] q] [] pos) (fz pI) (fun k => wa fun xs s1 => (xs.length ≤ 4000 ∧ xs.Nodup) ∧ k (xs.length : Int) s1) := by
  intro HI C Q σ F H st hq hw
  refine ⟨tLenSetU K (rdE M e), fun i => (by have h := pe_lenSetU (p := p) (p2 := p2) (q := q) (pos := pos) (M.calm i) (Gl.of hg i) (M.none hm i) (Gl.of hg2 i) (M.none hm2 i) (rdE_ok (M := M) i (e := e)) (hs _ _); rw [M.kf i] at h; exact h), ha HI _ _ σ F H st (fun x s1 u F1 H1 c1 e1 sv1 => ?_) hw⟩
  obtain ⟨⟨a, vs, rfl, hS, al⟩, st1⟩ := sv1.fz
  obtain ⟨⟨h1, h2⟩, c1⟩ := c1
  have ev := txt_map al
  subst ev
  have el : (x.map strOf).length = x.length := List.length_map ..
  refine ⟨a, x.map strOf, rfl, SqT.mono st1.ok hS, by rw [el]; exact h1, List.pairwise_map.mpr (h2.imp fun ne q => ne (strOf_inj q)), ?_⟩
  rw [el]
  exact hq _ s1 _ F1 H1 c1 e1 (st1.val rfl)
end
end Sm

set_option Elab.async false
set_option linter.all false
set_option maxRecDepth 100000
set_option maxHeartbeats 4000000
/-! list(t) of a text -/
namespace Sm
open PySem PySem.Spec PyProof.Rows L2
def rListT : List V → Hp → VK → Prop := fun xs H Q => ∃ x : Str, xs = [.str x] ∧ x.cps.size ≤ sizeLine ∧ ∀ l, H l = none → Q (.ref l) (upd H l (.lst (x.cps.toList.map fun c => V.str ⟨#[c]⟩)))
theorem cr_listT {X : Cx} (hc : X.calm = true) : CallR X (.type "list") rListT := by
  intro pins s σ H xs us Q I r h
  obtain ⟨x, rfl, hz, q⟩ := h
  obtain ⟨u, rfl, rx⟩ := vals1 r
  obtain ⟨t, rfl⟩ := rx
  refine call_list_str (I.ok.hd hc) x t (fun h' tk acc c' kp hD hacc => ?_) hz
  have hl : acc.toList.length = (x.cps.toList.map fun c => V.str ⟨#[c]⟩).length := by rw [Array.length_toList, hacc.1, List.length_map, Array.length_toList]
  have hv : Vals (x.cps.toList.map fun c => V.str ⟨#[c]⟩) acc.toList := vals_of_idx _ _ hl fun j u e => by
    obtain ⟨c, t', e1, rfl⟩ := hacc.2 j u (by rw [← Array.getElem?_toList]; exact e)
    refine ⟨.str ⟨#[c]⟩, ?_, ⟨t', rfl⟩⟩
    rw [List.getElem?_map, Array.getElem?_toList, e1]; rfl
  exact ⟨.ref s.heap.objs.size, upd H s.heap.objs.size (.lst (x.cps.toList.map fun c => V.str ⟨#[c]⟩)), I.laid (t' := tk) kp (Nat.le_refl _)
    (show ObjOk X.prog X.w _ _ _ (.lst _) from ⟨by rw [List.length_map, Array.length_toList]; exact hz, acc.toList, c', hv, by rw [Array.toArray_toList]; exact hD⟩), rfl, q _ (I.hok.fresh (Nat.le_refl _))⟩
section
variable {P : Program} {w : World} {K : PySem.W.Frag} {mg : Str → Option Value} {base : Heap} {N : List Str} {sc : Scope} {fn : Str → Bool} {k : Nat}
variable {M : Fm P w K mg base N sc fn k}
variable {S : Type} {O : S → Res} {Γ : Asrt} {s : S} {α β γ ρ : Type} {ra : RP α} {rb : RP β} {rc : RP γ} {A : ρ → VA}
theorem sgs_vals {F : Hp} : ∀ {x : Text}, okT x → All2 (fun i v => pT.r i v F) (sgs x) (x.map fun c => V.str ⟨#[c]⟩)
  | [], _ => trivial
  | c :: x, h => ⟨⟨rfl, fun d hd => h d (by rw [List.mem_singleton.mp hd]; exact List.mem_cons_self)⟩, sgs_vals fun d hd => h d (List.mem_cons_of_mem _ hd)⟩
theorem o_listT : Op1 (fun u => (rListT : List V → Hp → VK → Prop) [u]) pT (ol pT) (fun x k => x.length ≤ sizeLine ∧ k (sgs x)) :=
  fun O HI Γ s σ F H x u C Q st ⟨h1, h2⟩ hq ⟨hz, hc⟩ => ⟨⟨x.toArray⟩, by rw [h1], by simpa using hz, fun p hp => hq (sgs x) _ F _ hc (Same.refl _) (st.newV hp ⟨p, _, rfl, rfl, by simpa using sgs_vals h2⟩)⟩
theorem xe_listT {p pos : Pos} {e : Expr} {wa : (Text → S → Prop) → Prop} (hm : mg "list" = none) (ha : XE M O Γ s e (fz pT) wa) (hg : GlN sc "list" := by rfl) (hs : NoStar e := by intro _ _; rfl) :
    XE M O Γ s (.Call (.Name "list" p) [e] [] pos) (ol pT) (fun k => wa fun x s1 => x.length ≤ sizeLine ∧ k (sgs x) s1) := by
  have h := xe_ct1 (p := p) (pos := pos) (Wo := fun (x : Text) (k : List Text → Prop) => x.length ≤ sizeLine ∧ k (sgs x)) b_list (fun i => by have h := cr_listT (X := M.X i) (M.calm i); exact h) o_listT hm hg ha (by decide) (by decide) hs
  exact h
end
end Sm

set_option Elab.async false
set_option linter.all false
set_option maxRecDepth 100000
set_option maxHeartbeats 4000000
/-! x or y, x a text or None -/
namespace Sm
open PySem PySem.Spec PyProof.Rows L2
section
variable {P : Program} {w : World} {K : PySem.W.Frag} {mg : Str → Option Value} {base : Heap} {N : List Str} {sc : Scope} {fn : Str → Bool} {k : Nat}
variable {M : Fm P w K mg base N sc fn k}
variable {S : Type} {O : S → Res} {Γ : Asrt} {s : S} {α β γ ρ : Type} {ra : RP α} {rb : RP β} {rc : RP γ} {A : ρ → VA}
def txtO (x : Option Text) : Text := x.getD []
theorem xe_orO {a b : Expr} {pos : Pos} {wa : (Option Text → S → Prop) → Prop} {wb : S → (Text → S → Prop) → Prop} (ha : XE M O Γ s a (fz (pO pT)) wa) (hb : ∀ s', XE M O Γ s' b (fz pT) (wb s')) :
    XE M O Γ s (.BoolOp .Or [a, b] pos) (fz pT) (fun k => wa fun x s1 => (txtO x).length ≤ sizeLine ∧ if (txtO x).isEmpty = true then wb s1 k else k (txtO x) s1) := by
  intro HI C Q σ F H st hq hc
  refine ⟨tOrT K (rdE M a) (rdE M b), fun i => (by have h := pe_orT (rest := []) (pos := pos) (rdE_ok (M := M) i (e := a)) (pe_one (op := .Or) (pos := pos) (rdE_ok (M := M) i (e := b))); rw [M.kf i] at h; exact h), ha HI _ _ σ F H st (fun x s1 v F1 H1 c e sv1 => ?_) hc⟩
  obtain ⟨r, st1⟩ := sv1.fz
  obtain ⟨hz, c⟩ := c
  cases x with
  | none =>
    have r : v = .non := r
    subst r
    refine ⟨false, rfl, ?_⟩
    exact (iteF (hb s1 HI C Q σ F1 H1 st1 (fun y s2 v F2 H2 c2 e2 st2 => hq y s2 v F2 H2 c2 (e.trans e2) st2) (by simpa [txtO] using c)) : ite _ _ _)
  | some t =>
    obtain ⟨_, r1, r2⟩ := r
    subst r1
    cases t with
    | nil =>
      refine ⟨false, ⟨Nat.zero_le _, rfl⟩, ?_⟩
      exact (iteF (hb s1 HI C Q σ F1 H1 st1 (fun y s2 v F2 H2 c2 e2 st2 => hq y s2 v F2 H2 c2 (e.trans e2) st2) (by simpa [txtO] using c)) : ite _ _ _)
    | cons d t =>
      have hl : ((⟨(d :: t).toArray⟩ : Str)).length = t.length + 1 := by
        show (d :: t).toArray.size = _
        simp
      refine ⟨true, ⟨by rw [hl]; simpa [txtO] using hz, ?_⟩, ?_⟩
      · rw [hl]
        symm
        simp
        omega
      · exact (iteT (hq (d :: t) s1 _ F1 H1 (by simpa [txtO] using c) e (st1.val ⟨rfl, r2⟩)) : ite _ _ _)
end
end Sm

set_option Elab.async false
set_option linter.all false
set_option maxRecDepth 100000
set_option maxHeartbeats 4000000
/-! shifts of numbers of any size; a law whose numbers are not too great -/
namespace Sm
open PySem PySem.Spec PyProof.Rows L2
section
variable {P : Program} {w : World} {K : PySem.W.Frag} {mg : Str → Option Value} {base : Heap} {N : List Str} {sc : Scope} {fn : Str → Bool} {k : Nat}
variable {M : Fm P w K mg base N sc fn k}
variable {S : Type} {O : S → Res} {Γ : Asrt} {s : S}
theorem xe_shlW {a b : Expr} {pos : Pos} {wa : (Int → S → Prop) → Prop} {wb : S → (Int → S → Prop) → Prop} (ha : XE M O Γ s a (fz pI) wa) (hb : ∀ s', XE M O Γ s' b (fz pI) (wb s')) : XE M O Γ s (.BinOp a .LShift b pos) (fz pI) (fun k => wa fun x s1 => wb s1 fun y s2 => CShl x y ∧ k (x * 2 ^ y.toNat) s2) := xe_bin (fun _ => op_shlW) o_iC ha hb
end
theorem sp_law_ofB {K : PySem.W.Frag} {m : List Int × Unit → Unit → (Bool → Unit → Prop) → Prop} (hm : ∀ ns : List Int, ns.length ≤ 63 → (∀ z ∈ ns, Builtin.Int.intBits z ≤ 1048576) → m (ns, ()) () fun y _ => y = true) {a : Addr} {ns : List Int} {H : Hp} {E : XK}
    (hl : ns.length ≤ 63) (hb : ∀ z ∈ ns, Builtin.Int.intBits z ≤ 1048576) (hS : SqL K H a (ns.map V.int)) : SpF Unit (fun _ (x : List Int × Unit) => [fz (pL K pI) x.1]) (fun _ _ => emp) (fz pB) m [.ref a] H (fun v _ => v = .bl true) E :=
  ⟨(), (ns, ()), (), H, fun _ => none, [], ⟨⟨rfl, a, _, rfl, hS, All2.ints ns⟩, trivial⟩, rfl, ⟨Same.refl _, fun _ h => (by cases h), List.nodup_nil, (fun _ _ h => by cases h), (fun _ h => by cases h), fun _ _ h => (by cases h)⟩, _, fun y s' c v F' hv h2' H' e av o ok => by
    obtain ⟨_, r⟩ := av
    rw [show v = .bl y from r, c], hm ns hl hb⟩
end Sm

set_option Elab.async false
set_option linter.all false
set_option maxRecDepth 100000
set_option maxHeartbeats 4000000
/-! max(xs); a way that is never gone -/
namespace Sm
open PySem PySem.Spec PyProof.Rows L2
section
variable {P : Program} {w : World} {K : PySem.W.Frag} {mg : Str → Option Value} {base : Heap} {N : List Str} {sc : Scope} {fn : Str → Bool} {k : Nat}
variable {M : Fm P w K mg base N sc fn k}
variable {S : Type} {O : S → Res} {Γ : Asrt} {s : S} {α β γ ρ : Type} {ra : RP α} {rb : RP β} {rc : RP γ} {A : ρ → VA}
def highest (xs : List Int) (y : Int) : Prop := y ∈ xs ∧ ∀ z ∈ xs, z ≤ y
theorem o_maxL : Op1 (fun u => rMax K [u]) (pL K pI) (fz pI) (fun xs k => ∃ y, highest xs y ∧ k y) :=
  fun O HI Γ s σ F H x u C Q st ⟨a, vs, h1, h2, h3⟩ hq ⟨y, ⟨l1, l2⟩, hc⟩ => ⟨a, x, by rw [h1], by rw [← All2.map_eq (f := V.int) h3]; exact SqL.mono st.ok h2, List.length_pos_of_mem l1, fun m m1 m2 => by
    have e : m = y := Int.le_antisymm (l2 m m1) (m2 y l1)
    rw [e]; exact hq _ _ F H hc (Same.refl _) (st.val rfl)⟩
theorem xe_maxL {p pos : Pos} {e : Expr} {wa : (List Int → S → Prop) → Prop} (hm : mg "max" = none) (ha : XE M O Γ s e (fz (pL K pI)) wa) (hg : GlN sc "max" := by rfl) (hs : NoStar e := by intro _ _; rfl) :
    XE M O Γ s (.Call (.Name "max" p) [e] [] pos) (fz pI) (fun k => wa fun x s1 => ∃ y, highest x y ∧ k y s1) :=
  xe_cb1 b_max (fun i => by have h := cr_max (X := M.X i) (M.calm i); rw [M.kf i] at h; exact h) o_maxL hm hg ha (by decide) (by decide) hs
theorem xs_dead {HI F0 : Hp} {sts : List Stmt} {D : Ends} : XSs M O HI F0 Γ s sts D False := fun σ F H e0 st hp => hp.elim
end
end Sm

set_option Elab.async false
set_option linter.all false
set_option maxRecDepth 100000
set_option maxHeartbeats 4000000
/-! lists of two, unpacked -/
namespace Sm
open PySem PySem.Spec PyProof.Rows L2
section
variable {K : PySem.W.Frag} {α : Type}
/-- a list of two -/
def pQ (K : PySem.W.Frag) (r : RP α) : RP (α × α) := ⟨fun x v F => ∃ a u1 u2, v = .ref a ∧ SqL K F a [u1, u2] ∧ r.r x.1 u1 F ∧ r.r x.2 u2 F,
  fun e ⟨a, u1, u2, h1, h2, h3, h4⟩ => ⟨a, u1, u2, h1, SqL.mono e h2, r.mono e h3, r.mono e h4⟩⟩
def twos (x : α × α) : List α := [x.1, x.2]
theorem all_two {r : RP α} {F : Hp} : ∀ {ys : List (α × α)} {vs : List V}, All2 (fun x u => (pL K r).r x u F) (ys.map twos) vs → All2 (fun x u => (pQ K r).r x u F) ys vs
  | [], [], _ => trivial
  | y :: ys, v :: vs, ⟨h, t⟩ => by
    refine ⟨?_, all_two t⟩
    obtain ⟨a, us, rfl, h2, h3⟩ := h
    match us, h2, h3 with
    | [u1, u2], h2, h3 => exact ⟨a, u1, u2, rfl, h2, h3.1, h3.2.1⟩
    | [], _, h3 => exact h3.elim
    | [_], _, h3 => exact h3.2.elim
    | _ :: _ :: _ :: _, _, h3 => exact h3.2.2.elim
  | [], _ :: _, h => h.elim
  | _ :: _, [], h => h.elim
end
section
variable {P : Program} {w : World} {K : PySem.W.Frag} {mg : Str → Option Value} {base : Heap} {N : List Str} {sc : Scope} {fn : Str → Bool} {k : Nat}
variable {M : Fm P w K mg base N sc fn k}
variable {S : Type} {O : S → Res} {Γ : Asrt} {s : S} {α β γ ρ : Type} {ra : RP α} {rb : RP β} {rc : RP γ} {A : ρ → VA}
theorem xe_pairs {e : Expr} {wa : (List (List α) → S → Prop) → Prop} (ha : XE M O Γ s e (fz (pL K (pL K ra))) wa) : XE M O Γ s e (fz (pL K (pQ K ra))) (fun k => wa fun xs s1 => ∃ ys : List (α × α), xs = ys.map twos ∧ k ys s1) := by
  intro HI C Q σ F H st hq hw
  refine ha HI (fun xs s1 => ∃ ys : List (α × α), xs = ys.map twos ∧ C ys s1) Q σ F H st (fun x s1 u F1 H1 c1 e1 sv1 => ?_) hw
  obtain ⟨⟨a, vs, rfl, hS, al⟩, st1⟩ := sv1.fz
  obtain ⟨ys, rfl, c1⟩ := c1
  exact hq ys s1 _ F1 H1 c1 e1 (st1.val ⟨a, vs, rfl, hS, all_two al⟩)
theorem xg_lst2 {t1 t2 : Expr} {kk : Nat} {pos : Pos} {g1 : α → Asrt → Asrt} {g2 : α → Asrt → Asrt} {L1 L2 : List Nat} (h1 : XGt M t1 ra g1 L1) (h2 : XGt M t2 ra g2 L2)
    (hn : ∀ env, (assignEach [t1, t2] env).length = 2 := by intro _; rfl) (hst : ∀ env, (assignEach [t1, t2] env).findIdx? (·.1) = none := by intro _; rfl)
    (hs : ∀ env, (assignEach [t1, t2] env).map (·.2) = assign t1 env :: (assignEach [t2] env).map (·.2) := by intro _; rfl) (hs2 : ∀ env, (assignEach [t2] env).map (·.2) = assign t2 env :: (assignEach [] env).map (·.2) := by intro _; rfl) :
    XGt M (.Tuple [t1, t2] kk pos) (pQ K ra) (fun y Γ => g2 y.2 (g1 y.1 Γ)) (L1 ++ L2) := by
  refine ⟨fun O HI Γ s σ F H y v Q hl st ry hq => ?_, fun y Γ => by rw [h2.len, h1.len], fun y Γ j hj => ?_⟩
  · obtain ⟨a, u1, u2, ev, hT, r1, r2⟩ := ry
    refine ⟨gUnl K 2 (gCons (rdG M t1) (gCons (rdG M t2) gNil)), fun i => ?_, a, [u1, u2], ev, SqL.mono st.ok hT, rfl, u1, [u2], rfl, h1.run O HI Γ s σ F H y.1 u1 _ hl st r1 fun σ1 l1 o1 st1 => ⟨u2, [], rfl, h2.run O HI _ s σ1 F H y.2 u2 _ (by rw [h1.len]; exact hl) st1 r2 fun σ2 l2 o2 st2 => ⟨rfl, ?_⟩⟩⟩
    · have q := pg_unl (X := M.X i) (k := kk) (pos := pos) (M.calm i) (pgs_cons (rdG_ok i) (pgs_cons (rdG_ok i) pgs_nil (hs2 _)) (hs _)) (hn _) (hst _)
      rw [M.kf i] at q
      exact q
    · exact hq σ2 (l2.trans l1) (fun j hj => by rw [o2 j fun z => hj (List.mem_append_right _ z), o1 j fun z => hj (List.mem_append_left _ z)]) st2
  · rw [h2.out _ _ _ fun z => hj (List.mem_append_right _ z), h1.out _ _ _ fun z => hj (List.mem_append_left _ z)]
end
end Sm

set_option Elab.async false
set_option linter.all false
set_option maxRecDepth 100000
set_option maxHeartbeats 4000000
/-! sorted(d) of a dict with texts as keys; None or a text among texts -/
namespace Sm
open PySem PySem.Spec PyProof.Rows L2
section
variable {P : Program} {w : World} {K : PySem.W.Frag} {mg : Str → Option Value} {base : Heap} {N : List Str} {sc : Scope} {fn : Str → Bool} {k : Nat}
variable {M : Fm P w K mg base N sc fn k}
variable {S : Type} {O : S → Res} {Γ : Asrt} {s : S} {α β γ ρ : Type} {ra : RP α} {rb : RP β} {rc : RP γ} {A : ρ → VA}
theorem fOT : Flt (pO pT) := ⟨fun {x v F} h => by
    cases x with
    | none => rw [show v = .non from h]; rfl
    | some y => rw [h.2.1]; rfl, fun {x y u v F} h1 h2 => by
  cases x with
  | none =>
    rw [show u = .non from h1]
    cases y with
    | none => rw [show v = .non from h2]; rfl
    | some y => rw [h2.2.1]; rfl
  | some x =>
    rw [h1.2.1]
    cases y with
    | none => rw [show v = .non from h2]; rfl
    | some y =>
      rw [h2.2.1]
      show (_ == _) = _
      rw [Bool.eq_iff_iff]; simp⟩
/-- texts that rise, by the model -/
def risesT (ys : List Text) : Prop := sortedS (ys.map strOf) = true
theorem keys_of {F : Hp} {rv : RP β} : ∀ {d : List (Text × β)} {kvs : List (Key × V)}, AllD kyT rv F d kvs → kvs.map (·.1) = ((d.map (·.1)).map strOf).map Sum.inr
  | [], [], _ => rfl
  | p :: d, q :: kvs, ⟨a, _, c⟩ => by
    rw [List.map_cons, List.map_cons, List.map_cons, List.map_cons, keys_of c, a]; rfl
theorem txt_vals {F : Hp} : ∀ {ys : List Text}, (∀ t ∈ ys, okT t) → All2 (fun x v => pT.r x v F) ys ((ys.map strOf).map V.str)
  | [], _ => trivial
  | y :: ys, h => ⟨⟨rfl, h y List.mem_cons_self⟩, txt_vals fun t ht => h t (List.mem_cons_of_mem _ ht)⟩
theorem o_sortedDT {rv : RP β} : Op1 (fun u => (fun xs H Q => ∃ (a : Addr) (kvs : List (Key × V)) (ks : List Str), xs = [.ref a] ∧ Rd H a (.dK kvs) ∧ kvs.map (·.1) = ks.map Sum.inr ∧ ks.length < 64 ∧
    ∀ ys p, ys.Perm ks → sortedS ys = true → H p = none → Q (.ref p) (upd H p (.lst (ys.map V.str))) : List V → Hp → VK → Prop) [u]) (pD kyT rv) (ol pT)
    (fun d k => d.length < 64 ∧ (∀ t ∈ d.map (·.1), okT t) ∧ ∀ ys : List Text, ys.Perm (d.map (·.1)) → risesT ys → k ys) :=
  fun O HI Γ s σ F H x u C Q st ⟨a, kvs, h1, h2, h3⟩ hq ⟨hz, hok, hc⟩ => ⟨a, kvs, _, by rw [h1], .inl (st.ok _ _ h2), keys_of h3, by rw [List.length_map, List.length_map]; exact hz, fun ys p hp hs hn => by
    have e : (ys.map fun s : Str => s.cps.toList).map strOf = ys := by
      rw [List.map_map]
      conv => rhs; rw [← List.map_id ys]
      exact List.map_congr_left fun s _ => by cases s; rfl
    have pm : (ys.map fun s : Str => s.cps.toList).Perm (x.map (·.1)) := by
      have := hp.map fun s : Str => s.cps.toList
      rw [List.map_map] at this
      have e2 : ((x.map (·.1)).map ((fun s : Str => s.cps.toList) ∘ strOf)) = x.map (·.1) := by
        conv => rhs; rw [← List.map_id (x.map (·.1))]
        exact List.map_congr_left fun t _ => by show t.toArray.toList = t; simp
      rw [e2] at this
      exact this
    have := hq (ys.map fun s : Str => s.cps.toList) (.ref p) F (upd H p (.lst (ys.map V.str))) (hc _ pm (by unfold risesT; rw [e]; exact hs)) (Same.refl _) (st.newV hn ⟨p, _, rfl, rfl, by
      have := txt_vals (F := F) (ys := ys.map fun s : Str => s.cps.toList) fun t ht => hok t (pm.mem_iff.mp ht)
      rw [e] at this; exact this⟩)
    exact this⟩
theorem xe_sortedDT {e : Expr} {p pos : Pos} {rv : RP β} {wa : (List (Text × β) → S → Prop) → Prop} (hm : mg "sorted" = none) (ha : XE M O Γ s e (fz (pD kyT rv)) wa) (hg : GlN sc "sorted" := by rfl) (hs : NoStar e := by intro _ _; rfl) :
    XE M O Γ s (.Call (.Name "sorted" p) [e] [] pos) (ol pT) (fun k => wa fun d s1 => d.length < 64 ∧ (∀ t ∈ d.map (·.1), okT t) ∧ ∀ ys : List Text, ys.Perm (d.map (·.1)) → risesT ys → k ys s1) :=
  xe_cb1 (Wo := fun (d : List (Text × β)) (k : List Text → Prop) => d.length < 64 ∧ (∀ t ∈ d.map (·.1), okT t) ∧ ∀ ys : List Text, ys.Perm (d.map (·.1)) → risesT ys → k ys) b_sorted (fun i => by have h := call_sortedD (X := M.X i) (M.calm i); exact h) o_sortedDT hm hg ha (by decide) (by decide) hs
end
end Sm

set_option Elab.async false
set_option linter.all false
set_option maxRecDepth 100000
set_option maxHeartbeats 4000000
/-! a op b op' c of ints; what only looks at what is owned, and makes a list -/
namespace Sm
open PySem PySem.Spec PyProof.Rows L2
section
variable {P : Program} {w : World} {K : PySem.W.Frag} {mg : Str → Option Value} {base : Heap} {N : List Str} {sc : Scope} {fn : Str → Bool} {k : Nat}
variable {M : Fm P w K mg base N sc fn k}
variable {S : Type} {O : S → Res} {Γ Δ : Asrt} {s : S} {α β γ ρ : Type} {ra : RP α} {rb : RP β} {rc : RP γ} {A : ρ → VA}
section
variable {a b c : Expr} {op op' : CmpOp} {pos : Pos} {g g' : Int → Int → Bool} {wa : (Int → S → Prop) → Prop} {wb wc : S → (Int → S → Prop) → Prop}
theorem xe_chain (ho : ∀ i, OpR (M.X i) (compareOp op) (rI0 fun i j => .bl (g i j))) (ho' : ∀ i, OpR (M.X i) (compareOp op') (rI0 fun i j => .bl (g' i j))) (ha : XE M O Γ s a (fz pI) wa) (hb : ∀ s', XE M O Γ s' b (fz pI) (wb s')) (hc : ∀ s', XE M O Γ s' c (fz pI) (wc s'))
    (hm : lastMarks [op, op'] [b, c] = false := by with_unfolding_all rfl) :
    XE M O Γ s (.Compare a [op, op'] [b, c] pos) (fz pB) (fun k => wa fun x s1 => wb s1 fun y s2 => (if g x y = true then wc s2 fun z s3 => k (g' y z) s3 else k false s2)) := by
  intro HI C Q σ F H st hq hcc
  refine ⟨_, fun i => pe_chain (ho i) (ho' i) (rdE_ok i) (rdE_ok i) (rdE_ok i) hm, two ha hb st (fun x y s' u v F' H' q e rx ry st' => ?_) hcc⟩
  refine ⟨x, y, rx, ry, g x y, rfl, ?_⟩
  by_cases t : g x y = true
  · rw [if_pos t] at q
    rw [if_pos t]
    refine hc s' HI _ _ σ F' H' st' (fun z s3 w F3 H3 c3 e3 sv3 => ?_) q
    obtain ⟨rz, st3⟩ := sv3.fz
    exact ⟨y, z, ry, rz, hq _ s3 _ F3 H3 c3 (e.trans e3) (st3.val rfl)⟩
  · rw [if_neg t] at q
    rw [if_neg t]
    exact hq _ s' _ F' H' q e (st'.val rfl)
end
section
variable {M : Fm P w K mg base N sc fn k}
theorem ci_lt : ∀ i, OpR (M.X i) (compareOp .Lt) (rI0 fun i j => .bl (decide (i < j))) := fun _ => op_lt
theorem ci_le : ∀ i, OpR (M.X i) (compareOp .LtE) (rI0 fun i j => .bl (decide (i ≤ j))) := fun _ => op_le
theorem ci_gt : ∀ i, OpR (M.X i) (compareOp .Gt) (rI0 fun i j => .bl (decide (j < i))) := fun _ => op_gt
theorem ci_ge : ∀ i, OpR (M.X i) (compareOp .GtE) (rI0 fun i j => .bl (decide (j ≤ i))) := fun _ => op_ge
end
theorem Pk.len : ∀ {Γ Δ : Asrt}, Pk K Γ Δ → Δ.length = Γ.length
  | _, _, .nil => rfl
  | _, _, .no p => congrArg Nat.succ (Pk.len p)
  | _, _, .fz p => congrArg Nat.succ (Pk.len p)
  | _, _, .ol p => congrArg Nat.succ (Pk.len p)
  | _, _, .drop p => congrArg Nat.succ (Pk.len p)
theorem peekV {HI F H F' H' : Hp} {h1 h2 : HL} {σ : L2.St} {v : V} {x : List β} {u : Unit} (hf : FlatR rb) (sa : Sat Γ σ F h1) (so : (O s).p F h2) (ok : Ok F (h1 ++ h2) HI H) (e2 : Same (frA F h1) F') (sv : SttV (fun _ : Unit => emp) (Sm.hide HI h2) Δ u σ F' H' (ol rb x) v) : SttV O HI Γ s σ F H' (ol rb x) v := by
  obtain ⟨k1, e1, m1⟩ := frA_ok ok.hide
  obtain ⟨hv, g1, g2, ⟨a, vs, ev, eh, rv⟩, _, _, ok'⟩ := sv
  subst eh
  have bk := ok.back e2 ok'
  obtain ⟨o1, o2, o3⟩ := ok'.own _ List.mem_cons_self
  have na : a ∉ (h1 ++ h2).map (·.1) := fun q => by
    obtain ⟨p, hp, e⟩ := List.mem_map.mp q
    rcases List.mem_append.mp hp with hp | hp
    · have := e2 _ _ (m1 p hp)
      rw [e] at this
      rw [o2] at this; cases this
    · have nd := ok.nd
      rw [List.map_append] at nd
      unfold Sm.hide at o3
      rw [← e, lookup_of_mem (List.nodup_append.mp nd).2.1 hp] at o3; cases o3
  have nF : F a = none := by
    cases q : F a with
    | none => rfl
    | some x =>
      have := e2 _ _ (e1 _ _ q)
      rw [o2] at this; cases this
  have nI : HI a = none := by
    cases q : HI a with
    | none => rfl
    | some x =>
      unfold Sm.hide at o3
      cases z : h2.lookup a with
      | none => rw [z] at o3; rw [q] at o3; cases o3
      | some o => rw [z] at o3; cases o3
  refine ⟨[(a, .lst vs)], h1, h2, ⟨a, vs, ev, rfl, rv.imp fun _ _ q => hf _ _ _ _ q⟩, sa, so, ?_⟩
  refine ⟨bk.fz, fun p hp => ?_, ?_, bk.hid, fun p hp => (List.mem_cons.mp hp).elim (fun e => e ▸ ok'.nt _ List.mem_cons_self) (bk.nt p), bk.hnt⟩
  · rcases List.mem_cons.mp hp with rfl | hp
    · exact ⟨o1, nF, nI⟩
    · exact bk.own p hp
  · exact List.nodup_cons.mpr ⟨na, bk.nd⟩
/-- a list made while what is owned is only looked at -/
theorem xe_peekL {e : Expr} {wd : (List β → Prop) → Prop} (hp : Pk K Γ Δ) (hf : FlatR rb) (h : XE M (fun _ : Unit => emp) Δ () e (ol rb) (fun k => wd fun x => k x ())) : XE M O Γ s e (ol rb) (fun k => wd fun x => k x s) := by
  intro HI C Q σ F H st hq hc
  obtain ⟨h1, h2, sa, so, ok⟩ := st
  obtain ⟨k1, e1, m1⟩ := frA_ok ok.hide
  refine h (Sm.hide HI h2) (fun x _ => C x s) Q σ (frA F h1) H ⟨[], [], hp.sat e1 sa m1, rfl, k1⟩ (fun x s' v F' H' c e2 sv => ?_) hc
  exact hq x s v F H' c (Same.refl _) (peekV hf sa so ok e2 sv)
/-- y = [.. for .. in .. if ..], while what is owned is only looked at -/
theorem xs_setLcP {HI F0 : Hp} {D : Ends} {y : Str} {py pos pos' : Pos} {rest : List Stmt} {tg iter elt : Expr} {ifs : List Expr} {scope : Scope} {L : List Nat} {g : α → Asrt → Asrt} {wi : (List α → Unit → Prop) → Prop} {wt : α → Unit → (Bool → Unit → Prop) → Prop} {we : α → Unit → (β → Unit → Prop) → Prop} {Pj : List β → S → Prop}
    (i : Nat) (own : List (Str × Nat)) (hp : Pk K Γ Δ) (hf : FlatR rb) (hi : XI M (fun _ : Unit => emp) Δ () tg iter ra wi) (hg : XGt (M.blk scope) tg ra g L) (ht : ∀ x s', XTs (M.blk scope) (fun _ : Unit => emp) (g x (wipeA Δ (own.map (·.2)))) s' ifs (wt x s')) (he : ∀ x s', XE (M.blk scope) (fun _ : Unit => emp) (g x (wipeA Δ (own.map (·.2)))) s' elt (fz rb) (we x s'))
    (hk : ∀ z s', XSs M O HI F0 (Γ.set i (some (ol rb z))) s' rest D (Pj z s'))
    (hN : N[i]? = some y := by rfl) (hx : sc.names.lookup y = some .local := by rfl) (ok : blkC N sc scope own = true := by decide +kernel) (hL : ∀ i ∈ L, i ∈ own.map (·.2) := by decide) (hΓ : Γ.length = N.length := by rfl) (hs : ∀ env x, foldedSetIterable iter env x = pure x := by intro _ _; rfl)
    (hl : (py.line == pos.line) = true := by rfl) (ha : (scope.names.any fun (n, k) => n == y && (k == .local || k == .cell)) = false := by decide +kernel) (hkd : sc.kind = .function := by rfl) :
    XSs M O HI F0 Γ s (.Assign [.Name y py] (.ListComp elt [⟨tg, iter, ifs, 0⟩] scope pos) pos' :: rest) D (wi fun xs s1 => xs.length ≤ sizeLine ∧ compW (fun x s k => wt x s fun b s1 => if b = true then we x s1 fun y s2 => k (some y) s2 else k none s1) (fun z _ => Pj z s) xs s1 []) := by
  intro σ F H e0 st hp2
  have hiN : i < N.length := (List.getElem?_eq_some_iff.mp hN).1
  refine ⟨_, fun j => pss_cons (ps_setLc (i := i) (own := own) (M.calm j) (by rw [M.nn]; exact M.nd) (by rw [M.nn]; exact hN) (by rw [M.scp]; exact hx) (sw_true (by rw [M.scp]; exact hkd) (by rw [M.scp]; exact hx) hl ha) (rdI_ok j) (by rw [M.nn, M.scp]; exact blkOk_by ok)
    (fun s0 H0 C0 cl fp => rdG_ok (M := M.blk scope) (j, s0, H0, C0, cl, fp)) (fun s0 H0 C0 cl fp => rdTs_ok (M := M.blk scope) (j, s0, H0, C0, cl, fp)) (fun s0 H0 C0 cl fp => rdE_ok (M := M.blk scope) (j, s0, H0, C0, cl, fp)) (hs _)) (rdSs_ok j), ?_⟩
  obtain ⟨h1, h2, sa, so, okk⟩ := st
  obtain ⟨k1, e1, m1⟩ := frA_ok okk.hide
  have q : tLc (rdI M tg iter) (rdG (M.blk scope) tg) (rdTs (M.blk scope) ifs) (rdE (M.blk scope) elt) (own.map (·.2)) σ H (fun v H' => rdSs M rest D (σ.set i (some v)) H') :=
    lc_run (C := fun z _ => Pj z s) (HI := Sm.hide HI h2) (F := frA F h1) hi hg hL ((Pk.len hp).trans hΓ) ht he ⟨[], [], hp.sat e1 sa m1, rfl, k1⟩ (fun ys s' v F' H' c e2 sv => hk ys s _ F H' e0 (Stt.put (peekV hf sa so okk e2 sv) (by rw [hΓ]; exact hiN)) c) hp2
  exact q
end
end Sm

set_option Elab.async false
set_option linter.all false
set_option maxRecDepth 100000
set_option maxHeartbeats 4000000
/-! dicts with pairs of ints as keys: new, stored into, listed -/
namespace Sm
open PySem PySem.Spec PyProof.Rows L2
section
variable {P : Program} {w : World} {K : PySem.W.Frag} {mg : Str → Option Value} {base : Heap} {N : List Str} {sc : Scope} {fn : Str → Bool} {k : Nat}
variable {M : Fm P w K mg base N sc fn k}
variable {S : Type} {O : S → Res} {Γ Δ : Asrt} {s : S} {α β γ ρ : Type} {ra : RP α} {rb : RP β} {rc : RP γ} {A : ρ → VA}
def kk2 (p : Int × Int) : List Key := [.inl p.1, .inl p.2]
theorem kk2_inj {p q : Int × Int} (h : kk2 p = kk2 q) : p = q := by
  obtain ⟨a, b⟩ := p
  obtain ⟨c, d⟩ := q
  have h1 := List.cons.inj h
  have h2 := List.cons.inj h1.2
  have e1 : a = c := Sum.inl.inj h1.1
  have e2 : b = d := Sum.inl.inj h2.1
  rw [e1, e2]
/-- one key more -/
def addQ (ks : List (Int × Int)) (z : Int × Int) : List (Int × Int) := if z ∈ ks then ks else ks ++ [z]
/-- an owned dict of pairs: its keys -/
def oq (ks : List (Int × Int)) : VA := ⟨fun v _ h => ∃ a kvs, v = .ref a ∧ h = [(a, .dT kvs)] ∧ kvs.map (·.1) = ks.map kk2, fun _ q => q⟩
def pKQ : RP (List (Int × Int)) := ⟨fun ks v F => ∃ a kvs, v = .ref a ∧ F a = some (.dT kvs) ∧ kvs.map (·.1) = ks.map kk2, fun e ⟨a, kvs, h1, h2, h3⟩ => ⟨a, kvs, h1, e _ _ h2, h3⟩⟩
/-- a pair that is no constant -/
def pTQ : RP (Int × Int) := ⟨fun x v F => ∃ a, v = .ref a ∧ F a = some (.tup ((kk2 x).map kV)), fun e ⟨a, h1, h2⟩ => ⟨a, h1, e _ _ h2⟩⟩
theorem keys_put {kvs : List (List Key × V)} {ks : List (Int × Int)} {z : Int × Int} {v : V} (h : kvs.map (·.1) = ks.map kk2) : (putK kvs (kk2 z) v).map (·.1) = (addQ ks z).map kk2 := by
  have e : (kvs.any fun kv => decide (kv.1 = kk2 z)) = decide (z ∈ ks) := by
    rw [Bool.eq_iff_iff, List.any_eq_true, decide_eq_true_iff]
    constructor
    · rintro ⟨kv, hkv, q⟩
      have : kv.1 ∈ kvs.map (·.1) := List.mem_map.mpr ⟨kv, hkv, rfl⟩
      rw [h, of_decide_eq_true q] at this
      obtain ⟨y, hy, ey⟩ := List.mem_map.mp this
      rw [← kk2_inj ey]; exact hy
    · intro q
      have : kk2 z ∈ kvs.map (·.1) := by rw [h]; exact List.mem_map.mpr ⟨z, q, rfl⟩
      obtain ⟨kv, hkv, ekv⟩ := List.mem_map.mp this
      exact ⟨kv, hkv, decide_eq_true ekv⟩
  unfold putK addQ
  rw [e]
  by_cases q : z ∈ ks
  · rw [decide_eq_true q, if_pos rfl, if_pos q, List.map_map, ← h]
    refine List.map_congr_left fun kv _ => ?_
    show (if kv.1 = kk2 z then (kv.1, v) else kv).1 = kv.1
    split <;> rfl
  · rw [decide_eq_false q, if_neg (by decide), if_neg q, List.map_append, List.map_append, h]; rfl
theorem xe_dnewKQ {pos : Pos} : XE M O Γ s (.Dict [] [] pos) oq (fun k => k [] s) := by
  intro HI C Q σ F H st hq hc
  exact ⟨_, fun i => pe_dnewT, fun p hp => hq [] s _ F _ hc (Same.refl _) (st.newV hp ⟨p, [], rfl, rfl, rfl⟩)⟩
theorem xe_tupTQ {a b : Expr} {x1 : Nat} {pos : Pos} {wa : (Int → S → Prop) → Prop} {wb : S → (Int → S → Prop) → Prop} (ha : XE M O Γ s a (fz pI) wa) (hb : ∀ s', XE M O Γ s' b (fz pI) (wb s')) (na : NoStar a := by intro _ _; rfl) (nb : NoStar b := by intro _ _; rfl) :
    XE M O Γ s (.Tuple [a, b] x1 pos) (fz pTQ) (fun k => wa fun x s1 => wb s1 fun y s2 => k (x, y) s2) := by
  intro HI C Q σ F H st hq hc
  refine ⟨_, fun i => pe_tup (pa_cons (rdE_ok i) (pa_cons (rdE_ok i) pa_nil (nb _ _)) (na _ _)), ?_⟩
  refine two ha hb st (R := fun u v H2 => _) (fun x y s' u v F' H' c e rx ry st' => ?_) hc
  refine ⟨by show 2 ≤ sizeLine; decide, fun p hp => ?_⟩
  obtain ⟨e2, st2⟩ := st'.newF (o := .tup [u, v]) hp
  have ex : u = .int x := rx
  have ey : v = .int y := ry
  subst ex ey
  exact hq (x, y) s' _ _ _ c (e.trans e2) (st2.val ⟨p, rfl, upd_same⟩)
section
variable {HI F0 : Hp} {D : Ends} {rest : List Stmt} {x : Str} {p1 p2 pos : Pos} {e f : Expr} {wv : (β → S → Prop) → Prop} {wk : S → (Int × Int → S → Prop) → Prop} {ks : List (Int × Int)}
/-- x[a, b] = f, x owned -/
theorem xs_putKQ {Pk : Int × Int → S → Prop} (i : Nat) (hΓ : Γ[i]? = some (some (oq ks))) (hf : XE M O Γ s f (fz rb) wv) (he : ∀ s', XE M O Γ s' e (fz pTQ) (wk s')) (hk : ∀ z s', XSs M O HI F0 (Γ.set i (some (oq (addQ ks z)))) s' rest D (Pk z s'))
    (hN : N[i]? = some x := by rfl) (hv : Vis sc x := by first | exact Or.inl rfl | exact Or.inr (Or.inl rfl) | exact Or.inr (Or.inr rfl)) (hd : (x == ("__debug__" : Str)) = false := by decide) (hcd : (x == ("__classdict__" : Str)) = false := by decide)
    (hs : ∀ j, swapsWith f (some (.Subscript (.Name x p1) e p2)) pos.line (M.X j).env = pure false := by intro _; rfl) :
    XSs M O HI F0 Γ s (.Assign [.Subscript (.Name x p1) e p2] f pos :: rest) D (wv fun _ s1 => wk s1 fun z s2 => ks.length < sizeLine ∧ Pk z s2) := by
  intro σ F H e0 st hp
  refine ⟨_, fun j => pss_cons (ps_dput (M.hu1 j) (pe_nameO (pos := p1) hN hv hd hcd j) (rdE_ok j) (rdE_ok j) (hs j)) (rdSs_ok j), ?_⟩
  refine hf HI _ _ σ F H st (fun y s1 v F1 H1 c1 e1 sv1 => ?_) hp
  obtain ⟨ry, st1⟩ := sv1.fz
  obtain ⟨v0, _, _, ev, ⟨a, kvs0, rfl, _, _⟩, _, _⟩ := st1.ownG hΓ
  refine ⟨.ref a, ev, ?_⟩
  refine he s1 HI _ _ σ F1 H1 st1 (fun z s2 u F2 H2 c2 e2 sv2 => ?_) c1
  obtain ⟨⟨b, eb, rz⟩, st2⟩ := sv2.fz
  subst eb
  obtain ⟨v', g1, g2, ev', ⟨a', kvs, rfl, eg, al⟩, ok, back⟩ := st2.ownG hΓ
  rw [ev] at ev'; cases ev'
  subst eg
  have kl : kvs.length = ks.length := by have := congrArg List.length al; rwa [List.length_map, List.length_map] at this
  refine ⟨a, _, rfl, DPut.t (ok.own _ List.mem_cons_self).1 (ok.fz _ _ rz) (by rw [kl]; exact c2.1), ?_⟩
  exact hk z s2 σ F2 _ (e0.trans (e1.trans e2)) (back F2 _ _ [(a, .dT (putK kvs (kk2 z) v))] (Same.refl _) ⟨a, _, rfl, rfl, keys_put al⟩ ok.set) c2.2
/-- its slot is frozen -/
theorem xs_freezeKQ {sts : List Stmt} {Pf : Prop} (i : Nat) (e : Γ[i]? = some (some (oq ks))) (h : XSs M O HI F0 (Γ.set i (some (fz pKQ ks))) s sts D Pf) : XSs M O HI F0 Γ s sts D Pf := by
  intro σ F H e0 st hp
  obtain ⟨v, g1, g2, ev, ⟨a, kvs, rfl, eg, al⟩, ok, back⟩ := st.ownG e
  subst eg
  have e1 : Same F (upd F a (.dT kvs)) := same_upd (ok.own _ List.mem_cons_self).2.1
  exact h σ _ H (e0.trans e1) (back _ _ _ [] e1 ⟨rfl, a, kvs, rfl, upd_same, al⟩ ok.freeze) hp
end
/-- what no owner has -/
def Loose (o : HO) : Prop := ¬ NT o
/-- tuples that are there are frozen -/
theorem Stt.grow {HI : Hp} {σ : L2.St} {H : Hp} : ∀ {bs : List Addr} {F : Hp}, Stt O HI Γ s σ F H → (∀ b ∈ bs, ∃ o, H b = some o ∧ Loose o) → ∃ F', Same F F' ∧ Stt O HI Γ s σ F' H ∧ ∀ b ∈ bs, F' b = H b
  | [], F, st, _ => ⟨F, Same.refl _, st, fun b hb => by cases hb⟩
  | b :: bs, F, st, h => by
    obtain ⟨ob, hb, lo⟩ := h b List.mem_cons_self
    have one : ∃ F1, Same F F1 ∧ Stt O HI Γ s σ F1 H ∧ F1 b = H b := by
      cases q : F b with
      | some o => exact ⟨F, Same.refl _, st, by rw [q]; exact (st.ok _ _ q).symm⟩
      | none =>
        obtain ⟨h1, h2, sa, so, ok⟩ := st
        have e1 : Same F (upd F b ob) := same_upd q
        refine ⟨upd F b ob, e1, ⟨h1, h2, sa.mono e1, (O s).mono e1 so, ⟨fun c o hc => ?_, fun p hp => ?_, ok.nd, fun c o hc => ?_, ok.nt, ok.hnt⟩⟩, by rw [upd_same, hb]⟩
        · by_cases w : c = b
          · subst w; rw [upd_same] at hc; cases hc; exact hb
          · rw [upd_ne w] at hc; exact ok.fz _ _ hc
        · obtain ⟨a1, a2, a3⟩ := ok.own p hp
          refine ⟨a1, ?_, a3⟩
          have w : p.1 ≠ b := fun w => by
            rw [w, hb] at a1
            have := ok.nt p hp
            rw [← Option.some.inj a1] at this
            exact lo this
          rw [upd_ne w]; exact a2
        · obtain ⟨a1, a2⟩ := ok.hid c o hc
          have w : c ≠ b := fun w => by
            rw [w, hb] at a1
            have := ok.hnt c o hc
            rw [← Option.some.inj a1] at this
            exact lo this
          exact ⟨a1, by rw [upd_ne w]; exact a2⟩
    obtain ⟨F1, e1, st1, q1⟩ := one
    obtain ⟨F2, e2, st2, q2⟩ := Stt.grow (bs := bs) st1 fun c hc => h c (List.mem_cons_of_mem _ hc)
    refine ⟨F2, e1.trans e2, st2, fun c hc => ?_⟩
    rcases List.mem_cons.mp hc with rfl | hc
    · rw [hb] at q1 ⊢
      exact e2 _ _ q1
    · exact q2 c hc
theorem keys_all {F H : Hp} : ∀ {kvs : List (List Key × V)} {ks : List (Int × Int)} {bs : List Addr}, kvs.map (·.1) = ks.map kk2 → IsKeys H kvs bs → (∀ b ∈ bs, F b = H b) → All2 (fun x v => (pP K pI pI).r x v F) ks (bs.map V.ref)
  | [], [], _, _, .nil, _ => trivial
  | _ :: kvs, z :: ks, b :: bs, e, .cons h t, q => by
    rw [List.map_cons, List.map_cons] at e
    obtain ⟨e1, e2⟩ := List.cons.inj e
    rw [e1] at h
    refine ⟨⟨b, .int z.1, .int z.2, rfl, .inl (.inl ?_), rfl, rfl⟩, keys_all e2 t fun c hc => q c (List.mem_cons_of_mem _ hc)⟩
    rw [q b List.mem_cons_self]
    exact h
theorem keys_tup {H : Hp} : ∀ {kvs : List (List Key × V)} {bs : List Addr}, IsKeys H kvs bs → ∀ b ∈ bs, ∃ xs, H b = some (.tup xs)
  | _, _, .nil, b, hb => by cases hb
  | _, _, .cons h t, b, hb => by
    rcases List.mem_cons.mp hb with rfl | hb
    · exact ⟨_, h⟩
    · exact keys_tup t b hb
def rListKQ : List V → Hp → VK → Prop := fun xs H Q => ∃ d kvs, xs = [V.ref d] ∧ Rd H d (.dT kvs) ∧ ∀ p bs, H p = none → IsKeys H kvs bs → Q (.ref p) (upd H p (.lst (bs.map V.ref)))
theorem o_listKQ : Op1 (fun u => rListKQ [u]) pKQ (ol (pP K pI pI)) (fun ks k => k ks) :=
  fun O HI Γ s σ F H x u C Q st ⟨a, kvs, hu, hF, hk⟩ hq hc => ⟨a, kvs, by rw [hu], .inl (st.ok _ _ hF), fun p bs hp hb => by
    obtain ⟨F2, e2, st2, q2⟩ := st.grow (fun b h => let ⟨xs, e⟩ := keys_tup hb b h; ⟨_, e, fun q => q⟩)
    exact hq x _ F2 _ hc e2 (st2.newV hp ⟨p, _, rfl, rfl, keys_all hk hb q2⟩)⟩
theorem xe_listKQ {p pos : Pos} {e : Expr} {wa : (List (Int × Int) → S → Prop) → Prop} (hm : mg "list" = none) (ha : XE M O Γ s e (fz pKQ) wa) (hg : GlN sc "list" := by rfl) (hs : NoStar e := by intro _ _; rfl) :
    XE M O Γ s (.Call (.Name "list" p) [e] [] pos) (ol (pP K pI pI)) (fun k => wa fun x s1 => k x s1) := by
  have h := xe_ct1 (p := p) (pos := pos) (Wo := fun (x : List (Int × Int)) (k : List (Int × Int) → Prop) => k x) b_list (fun i => by have h := call_list_dT (X := M.X i) (M.calm i); exact h) (o_listKQ (K := K)) hm hg ha (by decide) (by decide) hs
  exact h
end
end Sm

set_option Elab.async false
set_option linter.all false
set_option maxRecDepth 100000
set_option maxHeartbeats 4000000
/-! zip of three -/
namespace Sm
open PySem PySem.Spec PyProof.Rows L2
def JZ3 (K : PySem.W.Frag) (k1 k2 k3 : Kd) : It :=
  ⟨fun i H => ∃ (xs ys zs : List V) (x y t : V), k1.its K H xs ∧ k2.its K H ys ∧ k3.its K H zs ∧ xs[i]? = some x ∧ ys[i]? = some y ∧ zs[i]? = some t,
    fun i H v H' => ∃ T x y t, v = .ref T ∧ H T = none ∧ H' = upd H T (.tup [x, y, t]) ∧ (∀ xs, k1.its K H xs → xs[i]? = some x) ∧ (∀ ys, k2.its K H ys → ys[i]? = some y) ∧ ∀ zs, k3.its K H zs → zs[i]? = some t,
    fun i H => ∃ xs ys zs : List V, k1.its K H xs ∧ k2.its K H ys ∧ k3.its K H zs ∧ i = min (min xs.length ys.length) zs.length⟩
theorem turn_z3 {P : Program} {w : World} {K : PySem.W.Frag} {elts : List Expr} {kk : Nat} {tpos : Pos} {z TI TO i1 i2 i3 : Addr} (k1 k2 k3 : Kd) (D : ZipSep3 z TI TO i1 i2 i3 (k1.fp i1) (k2.fp i2) (k3.fp i3)) :
    Turn P w K (.Tuple elts kk tpos) (JZ3 K k1 k2 k3) [z, TI, TO, i1, i2, i3] z (fun i h => IsZip h z TI TO .none ∧ IsTupOf3 h TI (.ref i1) (.ref i2) (.ref i3) ∧ (∃ a1 a2 a3, IsTupOf3 h TO a1 a2 a3) ∧ k1.tn i1 i h ∧ k2.tn i2 i h ∧ k3.tn i3 i h) where
  mem := by simp
  obj := fun i h st c hc => by
    obtain ⟨hz, hTI, ⟨x, y, t, hTO⟩, h1, h2, h3⟩ := st
    have e' : c = z ∨ c = TI ∨ c = TO ∨ c = i1 ∨ c = i2 ∨ c = i3 := by simpa using hc
    rcases e' with q | q | q | q | q | q
    · rw [q]; exact ⟨_, hz, fun v q => nomatch q⟩
    · rw [q]; exact ⟨_, hTI, fun v q => nomatch q⟩
    · rw [q]; exact ⟨_, hTO, fun v q => nomatch q⟩
    · rw [q]; exact (Kd.live (kd := k1) h1)
    · rw [q]; exact (Kd.live (kd := k2) h2)
    · rw [q]; exact (Kd.live (kd := k3) h3)
  keep := fun i h h' st k => by
    obtain ⟨hz, hTI, ⟨x, y, t, hTO⟩, h1, h2, h3⟩ := st
    exact ⟨k z (by simp) _ hz, k TI (by simp) _ hTI, ⟨x, y, t, k TO (by simp) _ hTO⟩, Kd.keep (kd := k1) h1 (k i1 (by simp)), Kd.keep (kd := k2) h2 (k i2 (by simp)), Kd.keep (kd := k3) h3 (k i3 (by simp))⟩
  item := by
    intro X hP hw hK hc i pins s σ H E I hf st hg
    subst hP hw hK
    obtain ⟨hz, hTI, hTO, h1, h2, h3⟩ := st
    obtain ⟨xs, ys, zs, x, y, t, hqx, hqy, hqz, hx, hy, ht⟩ := hg
    obtain ⟨n1, P1, St1, D1, e1, p1, q1, r1⟩ := Kd.draws I hqx (P := X.prog) (w := X.w) (A := X.A.in1) (I.ok.hd hc) i1 h1
    obtain ⟨n2, P2, St2, D2, e2, p2, q2, r2⟩ := Kd.draws I hqy (P := X.prog) (w := X.w) (A := X.A.in1) (I.ok.hd hc) i2 h2
    obtain ⟨n3, P3, St3, D3, e3, p3, q3, r3⟩ := Kd.draws I hqz (P := X.prog) (w := X.w) (A := X.A.in1) (I.ok.hd hc) i3 h3
    have hi1 : i < xs.length := (List.getElem?_eq_some_iff.mp hx).1
    have hi2 : i < ys.length := (List.getElem?_eq_some_iff.mp hy).1
    have hi3 : i < zs.length := (List.getElem?_eq_some_iff.mp ht).1
    refine wpAny_mono ((GoesN.zip3 (A := X.A) (elts := elts) (x1 := kk) (pos := tpos) D D1 D2 D3).goes i s _ E (by omega) ⟨hz, hTI, hTO, q1, q2, q3⟩ fun v h' tk hY hst hk htk => ?_) (fun r s1 h => h) fun _ _ h => h
    obtain ⟨T, u1, u2, u3, ev, hT, hp1, hp2, hp3, hTup⟩ := hY
    subst ev
    obtain ⟨y1, g1, ru1⟩ := p1 i u1 hp1
    obtain ⟨y2, g2, ru2⟩ := p2 i u2 hp2
    obtain ⟨y3, g3, ru3⟩ := p3 i u3 hp3
    rw [hx] at g1; cases g1
    rw [hy] at g2; cases g2
    rw [ht] at g3; cases g3
    have new : ObjOk X.prog X.w (upd H T (.tup [x, y, t])) h' T (.tup [x, y, t]) := ⟨by show 3 ≤ sizeLine; decide, [u1, u2, u3], .cons ru1 (.cons ru2 (.cons ru3 .nil)), hTup⟩
    have I1 : Inv X pins σ (upd H T (.tup [x, y, t])) { s with heap := h', toks := tk } :=
      I.turnedNew (ch := [z, TI, TO, i1, i2, i3]) (fun c o hb q => hk c o (fun z' => hb (by simp at z' ⊢; rcases z' with z' | z' | z' | z' | z' <;> simp [z'])) q) hf hT new
    refine ⟨.ref T, _, I1, rfl, ⟨T, x, y, t, rfl, I.hok.fresh hT, rfl, fun l hl => by rw [Kd.inj I hl hqx]; exact hx, fun l hl => by rw [Kd.inj I hl hqy]; exact hy, fun l hl => by rw [Kd.inj I hl hqz]; exact ht⟩,
      ⟨hst.1, hst.2.1, hst.2.2.1, r1 _ _ hst.2.2.2.1, r2 _ _ hst.2.2.2.2.1, r3 _ _ hst.2.2.2.2.2⟩, fun c hcm => ?_⟩
    have hlt : c < s.heap.objs.size := by
      have e' : c = z ∨ c = TI ∨ c = TO ∨ c = i1 ∨ c = i2 ∨ c = i3 := by simpa using hcm
      obtain ⟨a1, a2, a3, hTO⟩ := hTO
      rcases e' with q | q | q | q | q | q
      · rw [q]; exact Heap.lt_size hz
      · rw [q]; exact Heap.lt_size hTI
      · rw [q]; exact Heap.lt_size hTO
      · rw [q]; obtain ⟨_, e1, _⟩ := (Kd.live (kd := k1) h1); exact Heap.lt_size e1
      · rw [q]; obtain ⟨_, e2, _⟩ := (Kd.live (kd := k2) h2); exact Heap.lt_size e2
      · rw [q]; obtain ⟨_, e3, _⟩ := (Kd.live (kd := k3) h3); exact Heap.lt_size e3
    rw [upd_ne (Nat.ne_of_lt (Nat.lt_of_lt_of_le hlt hT))]
    exact (hf c hcm).1
  done := by
    intro X hP hw hK hc i pins s σ H E I hf st hg
    subst hP hw hK
    obtain ⟨hz, hTI, hTO, h1, h2, h3⟩ := st
    obtain ⟨xs, ys, zs, hqx, hqy, hqz, hend⟩ := hg
    obtain ⟨n1, P1, St1, D1, e1, p1, q1, r1⟩ := Kd.draws I hqx (P := X.prog) (w := X.w) (A := X.A.in1) (I.ok.hd hc) i1 h1
    obtain ⟨n2, P2, St2, D2, e2, p2, q2, r2⟩ := Kd.draws I hqy (P := X.prog) (w := X.w) (A := X.A.in1) (I.ok.hd hc) i2 h2
    obtain ⟨n3, P3, St3, D3, e3, p3, q3, r3⟩ := Kd.draws I hqz (P := X.prog) (w := X.w) (A := X.A.in1) (I.ok.hd hc) i3 h3
    have en : i = min (min n1 n2) n3 := by rw [e1, e2, e3]; exact hend
    subst en
    refine (GoesN.zip3 (A := X.A) (elts := elts) (x1 := kk) (pos := tpos) D D1 D2 D3).stops s _ E ⟨hz, hTI, hTO, q1, q2, q3⟩ fun h' tk hk htk => ?_
    exact I.turnedL (ch := [z, TI, TO, i1, i2, i3]) (fun c o hb q => hk c o (fun z' => hb (by simp at z' ⊢; rcases z' with z' | z' | z' | z' | z' <;> simp [z'])) q) hf
  self := fun A i s Q E st h => wpAny_pyIter_zip st.1 h
def iZ3 (K : PySem.W.Frag) (ta : TA) : TI := fun σ H R => ta σ H fun vs H1 => ∃ v1 v2 v3 xs ys zs, vs = [v1, v2, v3] ∧ KdV K H1 v1 xs fun k1 => KdV K H1 v2 ys fun k2 => KdV K H1 v3 zs fun k3 => R (JZ3 K k1 k2 k3) H1
theorem pi_z3 {X : Cx} {e e2 e3 : Expr} {ta : TA} {p pos tpos : Pos} {elts : List Expr} {kk : Nat} (hg : Gl X "zip") (hm : X.mg "zip" = none) (ha : PA X [e, e2, e3] ta)
    (hs : starEach [e, e2, e3] X.env = (false, eval e X.env) :: starEach [e2, e3] X.env := by rfl) (hpl : (backTo pos (starEach [e2, e3] X.env)).any (·.1) = false := by rfl) :
    PI X (.Tuple elts kk tpos) (.Call (.Name "zip" p) [e, e2, e3] [] pos) (iZ3 X.K ta) := by
  refine ⟨fun pins s σ H R I h => ?_⟩
  refine Call_ (ld_blt I hg hm PyProof.Rows.boot_zip (PyProof.Rows.callWith_type1 (thn (ha.run pos pins s σ H _ I h) fun us s1 ⟨vs, H1, I1, r1, q1⟩ => ?_) hs hpl))
  obtain ⟨v1, v2, v3, xs, ys, zs, ex, q⟩ := q1
  subst ex
  cases r1 with
  | cons ru1 rr =>
  cases rr with
  | cons ru2 rr =>
  cases rr with
  | cons ru3 rr =>
  cases rr
  obtain ⟨k1, ek1, hqx, q⟩ := q.of ru1
  obtain ⟨k2, ek2, hqy, q⟩ := q.of ru2
  obtain ⟨k3, ek3, hqz, q⟩ := q.of ru3
  subst ek1 ek2 ek3
  obtain ⟨Hk1, B1, b1⟩ := Kd.begins I1 hqx
  obtain ⟨Hk2, B2, b2⟩ := Kd.begins I1 hqy
  obtain ⟨Hk3, B3, b3⟩ := Kd.begins I1 hqz
  refine zip_begins3 B1 B2 B3 b1 b2 b3 fun h' hz hTI hTO h1 h2 h3 hsz hk => wpAny_pyIter_zip hz ?_
  have I2 : Inv X pins σ H1 { s1 with heap := h' } := I1.kept (t' := s1.toks) hk
  have f1 : ∀ b ∈ k1.fp s1.heap.objs.size, b ≤ s1.heap.objs.size := fun b hb => by
    rcases Kd.fp_old hb with z | z
    · rw [z]; exact Nat.le_refl _
    · exact Nat.le_of_lt (Kd.lt I1 hqx z)
  have f2 : ∀ b ∈ k2.fp (s1.heap.objs.size + 1), b < s1.heap.objs.size ∨ b = s1.heap.objs.size + 1 := fun b hb => by
    rcases Kd.fp_old hb with z | z
    · exact .inr z
    · exact .inl (Kd.lt I1 hqy z)
  have f3 : ∀ b ∈ k3.fp (s1.heap.objs.size + 2), b < s1.heap.objs.size ∨ b = s1.heap.objs.size + 2 := fun b hb => by
    rcases Kd.fp_old hb with z | z
    · exact .inr z
    · exact .inl (Kd.lt I1 hqz z)
  have nn : ∀ (a b : Nat), (a : Nat) ≠ b → (show Addr from a) ≠ b := fun a b h => h
  have S : ZipSep3 (s1.heap.objs.size + 5) (s1.heap.objs.size + 3) (s1.heap.objs.size + 4) s1.heap.objs.size (s1.heap.objs.size + 1) (s1.heap.objs.size + 2) (k1.fp s1.heap.objs.size) (k2.fp (s1.heap.objs.size + 1)) (k3.fp (s1.heap.objs.size + 2)) := by
    generalize s1.heap.objs.size = n at f1 f2 f3
    have g1 : ∀ j : Nat, 0 < j → (show Addr from n + j) ∉ k1.fp n := fun j hj hb => by
      have q : (n + j : Nat) ≤ n := f1 _ hb
      omega
    have g2 : ∀ j : Nat, j ≠ 1 → (show Addr from n + j) ∉ k2.fp (n + 1) := fun j hj hb => by
      have q : (n + j : Nat) < n ∨ (n + j : Nat) = n + 1 := f2 _ hb
      omega
    have g3 : ∀ j : Nat, j ≠ 2 → (show Addr from n + j) ∉ k3.fp (n + 2) := fun j hj hb => by
      have q : (n + j : Nat) < n ∨ (n + j : Nat) = n + 2 := f3 _ hb
      omega
    exact { TIz := nn _ _ (by omega), TOz := nn _ _ (by omega), TITO := nn _ _ (by omega), TIi1 := nn _ _ (by omega), mem1 := Kd.it_mem _ _, zf1 := g1 5 (by decide), Tf1 := g1 4 (by decide), TIi2 := nn _ _ (by omega), mem2 := Kd.it_mem _ _, zf2 := g2 5 (by decide), Tf2 := g2 4 (by decide), TIi3 := nn _ _ (by omega), mem3 := Kd.it_mem _ _, zf3 := g3 5 (by decide), Tf3 := g3 4 (by decide), sep1_2 := g2 0 (by decide), sep1_3 := g3 0 (by decide), sep2_1 := g1 1 (by decide), sep2_3 := g3 1 (by decide), sep3_1 := g1 2 (by decide), sep3_2 := g2 2 (by decide) }
  refine ⟨s1.heap.objs.size + 5, [s1.heap.objs.size + 5, s1.heap.objs.size + 3, s1.heap.objs.size + 4, s1.heap.objs.size, s1.heap.objs.size + 1, s1.heap.objs.size + 2], _, _, H1, rfl, I2, turn_z3 k1 k2 k3 S, ⟨hz, hTI, ⟨_, _, _, hTO⟩, Kd.first h1 fun a e => Nat.ne_of_lt (Kd.lt I1 hqx e), Kd.first h2 fun a e => Nat.ne_of_lt (Nat.lt_succ_of_lt (Kd.lt I1 hqy e)), Kd.first h3 fun a e => Nat.ne_of_lt (Nat.lt_succ_of_lt (Nat.lt_succ_of_lt (Kd.lt I1 hqz e)))⟩, fun c hcm => ?_, q⟩
  have e' : c = s1.heap.objs.size + 5 ∨ c = s1.heap.objs.size + 3 ∨ c = s1.heap.objs.size + 4 ∨ c = s1.heap.objs.size ∨ c = s1.heap.objs.size + 1 ∨ c = s1.heap.objs.size + 2 := by simpa using hcm
  have hle : s1.heap.objs.size ≤ c := by
    rcases e' with z | z | z | z | z | z
    · rw [z]; exact Nat.le_add_right _ _
    · rw [z]; exact Nat.le_add_right _ _
    · rw [z]; exact Nat.le_add_right _ _
    · rw [z]; exact Nat.le_refl _
    · rw [z]; exact Nat.le_add_right _ _
    · rw [z]; exact Nat.le_add_right _ _
  exact I1.fpOk hle (I1.hok.fresh hle)
def zip3 {α β γ : Type} : List α → List β → List γ → List (α × β × γ)
  | a :: as, b :: bs, c :: cs => (a, b, c) :: zip3 as bs cs
  | _, _, _ => []
theorem zip3_get {α β γ : Type} : ∀ {xs : List α} {ys : List β} {zs : List γ} {i : Nat} {x : α × β × γ}, (zip3 xs ys zs)[i]? = some x → xs[i]? = some x.1 ∧ ys[i]? = some x.2.1 ∧ zs[i]? = some x.2.2
  | [], _, _, _, _, h => by simp [zip3] at h
  | _ :: _, [], _, _, _, h => by simp [zip3] at h
  | _ :: _, _ :: _, [], _, _, h => by simp [zip3] at h
  | a :: xs, b :: ys, c :: zs, 0, x, h => by
    have e : (a, b, c) = x := Option.some.inj h
    subst e; exact ⟨rfl, rfl, rfl⟩
  | a :: xs, b :: ys, c :: zs, i + 1, x, h => zip3_get (xs := xs) (ys := ys) (zs := zs) (i := i) h
theorem zip3_len {α β γ : Type} : ∀ (xs : List α) (ys : List β) (zs : List γ), (zip3 xs ys zs).length = min (min xs.length ys.length) zs.length
  | [], _, _ => by simp [zip3]
  | _ :: _, [], _ => by simp [zip3]
  | _ :: _, _ :: _, [] => by simp [zip3]
  | a :: xs, b :: ys, c :: zs => by
    rw [zip3, List.length_cons, zip3_len xs ys zs, List.length_cons, List.length_cons, List.length_cons]; omega
section
variable {P : Program} {w : World} {K : PySem.W.Frag} {mg : Str → Option Value} {base : Heap} {N : List Str} {sc : Scope} {fn : Str → Bool} {k : Nat}
variable {M : Fm P w K mg base N sc fn k}
variable {S : Type} {O : S → Res} {Γ Δ : Asrt} {s : S} {α β γ ρ : Type} {ra : RP α} {rb : RP β} {rc : RP γ} {A : ρ → VA}
theorem xi_zip3 {ι κ θ : Type} {ri : RP ι} {rk : RP κ} {rt : RP θ} {f : α → List ι} {g : β → List κ} {l : γ → List θ} {e e2 e3 : Expr} {elts : List Expr} {kk : Nat} {tpos p pos : Pos} {wa : (α → S → Prop) → Prop} {wb : S → (β → S → Prop) → Prop} {wc : S → (γ → S → Prop) → Prop} (hm : mg "zip" = none)
    (d1 : Drw K ra ri f) (d2 : Drw K rb rk g) (d3 : Drw K rc rt l) (ha : XE M O Γ s e (fz ra) wa) (hb : ∀ s', XE M O Γ s' e2 (fz rb) (wb s')) (hd : ∀ s', XE M O Γ s' e3 (fz rc) (wc s')) (hg : GlN sc "zip" := by rfl) (hs : NoStar e := by intro _ _; rfl) (hs2 : NoStar e2 := by intro _ _; rfl) (hs3 : NoStar e3 := by intro _ _; rfl) :
    XI M O Γ s (.Tuple elts kk tpos) (.Call (.Name "zip" p) [e, e2, e3] [] pos) (pP3 K ri rk rt) (fun k => wa fun x s1 => wb s1 fun y s2 => wc s2 fun z s3 => k (zip3 (f x) (g y) (l z)) s3) := by
  intro HI C R σ F H st hq hc
  refine ⟨_, fun i => (by
    have h := pi_z3 (X := M.X i) (elts := elts) (kk := kk) (tpos := tpos) (p := p) (pos := pos) (Gl.of hg i) (M.none hm i) (pa_cons (rdE_ok (M := M) i (e := e)) (pa_cons (rdE_ok (M := M) i (e := e2)) (pa_cons (rdE_ok (M := M) i (e := e3)) pa_nil (hs3 _ _)) (hs2 _ _)) (hs _ _)) (hs _ _) (by rw [hs2 [e3] (M.X i).env, hs3 [] (M.X i).env]; rfl)
    rw [M.kf i] at h; exact h), ?_⟩
  refine two ha hb st (R := fun u v H2 => _) (fun x y s' u v F' H' c e1 rx ry st' => ?_) hc
  refine hd s' HI _ _ σ F' H' st' (fun z s3 t F3 H3 c3 e3' sv3 => ?_) c
  obtain ⟨rz, st3⟩ := sv3.fz
  obtain ⟨xs, hx⟩ := d1 st3.ok (ra.mono e3' rx)
  obtain ⟨ys, hy⟩ := d2 st3.ok (rb.mono e3' ry)
  obtain ⟨zs, hz⟩ := d3 st3.ok rz
  refine ⟨u, v, t, xs, ys, zs, rfl, hx _ fun k1 h1 => hy _ fun k2 h2 => hz _ fun k3 h3 => hq _ s3 _ F3 H3 c3 (e1.trans e3') st3 fun F2 e2 HI' h H2 ok => ⟨fun i z hz => ?_, ?_⟩⟩
  · obtain ⟨vs, hv1, hv2⟩ := h1 F2 H2 e2 ok.fz
    obtain ⟨ws, hw1, hw2⟩ := h2 F2 H2 e2 ok.fz
    obtain ⟨ts, ht1, ht2⟩ := h3 F2 H2 e2 ok.fz
    obtain ⟨z1, z2, z3⟩ := zip3_get hz
    obtain ⟨v1, g1, r1⟩ := hv2.get z1
    obtain ⟨v2, g2, r2⟩ := hw2.get z2
    obtain ⟨v3, g3, r3⟩ := ht2.get z3
    refine ⟨⟨vs, ws, ts, v1, v2, v3, hv1, hw1, ht1, g1, g2, g3⟩, fun v' H' hy => ?_⟩
    obtain ⟨T, w1, w2, w3, ev, nT, eh, q1, q2, q3⟩ := hy
    subst ev eh
    have e3 := q1 vs hv1
    rw [g1] at e3; cases e3
    have e4 := q2 ws hw1
    rw [g2] at e4; cases e4
    have e6 := q3 ts ht1
    rw [g3] at e6; cases e6
    have e5 : Same F2 (upd F2 T (.tup [v1, v2, v3])) := same_upd (ok.free nT).1
    exact ⟨_, e5, ok.newF nT, T, v1, v2, v3, rfl, .inl (.inl upd_same), ri.mono e5 r1, rk.mono e5 r2, rt.mono e5 r3⟩
  · obtain ⟨vs, hv1, hv2⟩ := h1 F2 H2 e2 ok.fz
    obtain ⟨ws, hw1, hw2⟩ := h2 F2 H2 e2 ok.fz
    obtain ⟨ts, ht1, ht2⟩ := h3 F2 H2 e2 ok.fz
    exact ⟨vs, ws, ts, hv1, hw1, ht1, by rw [zip3_len, hv2.length, hw2.length, ht2.length]⟩
end
end Sm

set_option Elab.async false
set_option linter.all false
set_option maxRecDepth 100000
set_option maxHeartbeats 4000000
/-! a op b op' c as a test -/
namespace Sm
open PySem PySem.Spec PyProof.Rows L2
section
variable {P : Program} {w : World} {K : PySem.W.Frag} {mg : Str → Option Value} {base : Heap} {N : List Str} {sc : Scope} {fn : Str → Bool} {k : Nat}
variable {M : Fm P w K mg base N sc fn k}
variable {S : Type} {O : S → Res} {Γ Δ : Asrt} {s : S}
variable {a b c : Expr} {op op' : CmpOp} {pos : Pos} {g g' : Int → Int → Bool} {wa : (Int → S → Prop) → Prop} {wb wc : S → (Int → S → Prop) → Prop}
theorem xt_chain (ho : ∀ i, OpR (M.X i) (compareOp op) (rI0 fun i j => .bl (g i j))) (ho' : ∀ i, OpR (M.X i) (compareOp op') (rI0 fun i j => .bl (g' i j))) (ha : XE M O Γ s a (fz pI) wa) (hb : ∀ s', XE M O Γ s' b (fz pI) (wb s')) (hc : ∀ s', XE M O Γ s' c (fz pI) (wc s'))
    (hm : lastMarks [op, op'] [b, c] = false := by with_unfolding_all rfl) :
    XT M O Γ s (.Compare a [op, op'] [b, c] pos) (fun k => wa fun x s1 => wb s1 fun y s2 => (if g x y = true then wc s2 fun z s3 => k (g' y z) s3 else k false s2)) := by
  intro HI C Q σ F H st hq hcc
  refine ⟨_, fun i => pt_chain (ho i) (ho' i) (rdE_ok i) (rdE_ok i) (rdE_ok i) hm, two ha hb st (fun x y s' u v F' H' q e rx ry st' => ?_) hcc⟩
  refine ⟨x, y, rx, ry, g x y, rfl, ?_⟩
  by_cases t : g x y = true
  · rw [if_pos t] at q
    rw [if_pos t]
    refine hc s' HI _ _ σ F' H' st' (fun z s3 w F3 H3 c3 e3 sv3 => ?_) q
    obtain ⟨rz, st3⟩ := sv3.fz
    exact ⟨y, z, ry, rz, _, rfl, hq _ s3 F3 H3 c3 (e.trans e3) st3⟩
  · rw [if_neg t] at q
    rw [if_neg t]
    exact ⟨_, rfl, hq _ s' F' H' q e st'⟩
end
end Sm

set_option Elab.async false
set_option linter.all false
set_option maxRecDepth 100000
set_option maxHeartbeats 4000000
/-! own classes of two fields: the instances as resources, and looked at -/
namespace Sm
open PySem PySem.Spec PyProof.Rows L2
/-! ### instances -/
def oFs (f2 : Str) (b : Int) (v2 : V) : List (Str × V) := [("bits", .int b), (f2, v2)]
/-- an instance that stands at a known address -/
def resOb {β : Type} (C : Addr) (f2 : Str) (B : β → VA) (a : Addr) (st : Int × β) : Res :=
  ⟨fun F h => ∃ dx v2 h2, h = (a, .ins C dx (oFs f2 st.1 v2)) :: h2 ∧ (B st.2).p v2 F h2, fun e ⟨dx, v2, h2, q1, q2⟩ => ⟨dx, v2, h2, q1, (B st.2).mono e q2⟩⟩
/-- an instance that is owned -/
def okOb {β : Type} (C : Addr) (f2 : Str) (B : β → VA) (st : Int × β) : VA := ⟨fun v F h => ∃ a, v = .ref a ∧ (resOb C f2 B a st).p F h, fun e ⟨a, q1, q2⟩ => ⟨a, q1, (resOb C f2 B a st).mono e q2⟩⟩
/-- an instance that is looked at -/
def pOb {β : Type} (C : Addr) (f2 : Str) (r : RP β) : RP (Int × β) :=
  ⟨fun st v F => ∃ a dx v2, v = .ref a ∧ F a = some (.ins C dx (oFs f2 st.1 v2)) ∧ r.r st.2 v2 F, fun e ⟨a, dx, v2, h1, h2, h3⟩ => ⟨a, dx, v2, h1, e _ _ h2, r.mono e h3⟩⟩
/-- what is owned, and how it looks when it is frozen -/
def FrzR {β : Type} (B : β → VA) (r : RP β) : Prop := ∀ st v F h F', (B st).p v F h → Same F F' → (∀ p ∈ h, F' p.1 = some p.2) → r.r st v F'
theorem frz_ol {K : PySem.W.Frag} {α : Type} {ra : RP α} : FrzR (fun xs => ol ra xs) (pL K ra) := fun xs v F h F' ⟨a, vs, h1, h2, h3⟩ e m => ⟨a, vs, h1, .inl (.inl (m (a, .lst vs) (by rw [h2]; exact List.mem_cons_self))), h3.imp fun _ _ q => ra.mono e q⟩
theorem frz_ob {β : Type} {C : Addr} {f2 : Str} {B : β → VA} {r : RP β} (f : FrzR B r) : FrzR (fun st => okOb C f2 B st) (pOb C f2 r) := fun st v F h F' ⟨a, e1, dx, v2, h2, e2, q⟩ e m => by
  subst e2
  exact ⟨a, dx, v2, e1, m _ List.mem_cons_self, f _ _ _ _ _ q e fun p hp => m p (List.mem_cons_of_mem _ hp)⟩
theorem ad_ob {β : Type} {C : Addr} {f2 : Str} {B : β → VA} {st : Int × β} : Adp (okOb C f2 B st) (fun a => resOb C f2 B a) (fun n => n = st) := fun n h v F hv ⟨a, ev, q⟩ => ⟨a, ev, by rw [h]; exact q⟩
/-- what stays when what was only looked at is owned again: all that it names is made of tuples -/
def TupR {β : Type} (r : RP β) : Prop := ∀ x v F, r.r x v F → ∃ bs : List Addr, (∀ b ∈ bs, ∃ o, F b = some o ∧ Loose o) ∧ ∀ F', (∀ b ∈ bs, F' b = F b) → r.r x v F'
theorem tu_fl {β : Type} {r : RP β} (f : FlatR r) : TupR r := fun x v F h => ⟨[], fun b hb => (by cases hb), fun F' _ => f _ _ _ _ h⟩
theorem rd_loose {F : Hp} {a : Addr} {xs : List V} (h : Rd F a (.tup xs)) : ∃ o, F a = some o ∧ Loose o ∧ ∀ F' : Hp, F' a = some o → Rd F' a (.tup xs) := by
  rcases h with h | ⟨ob, h⟩
  · exact ⟨_, h, fun q => q, fun F' q => .inl q⟩
  · exact ⟨_, h, fun q => q, fun F' q => .inr ⟨ob, q⟩⟩
theorem tu_U {K : PySem.W.Frag} {α : Type} {ra : RP α} (f : FlatR ra) : TupR (pU K ra) := fun xs v F ⟨a, vs, h1, h2, h3⟩ => by
  have al : ∀ F', All2 (fun x u => ra.r x u F') xs vs := fun F' => h3.imp fun _ _ q => f _ _ _ _ q
  rcases h2 with h2 | h2
  · obtain ⟨o, ho, lo, hr⟩ := rd_loose h2
    exact ⟨[a], fun b hb => by rw [List.mem_singleton.mp hb]; exact ⟨o, ho, lo⟩, fun F' m => ⟨a, vs, h1, .inl (hr F' ((m a List.mem_cons_self).trans ho)), al F'⟩⟩
  · exact ⟨[], fun b hb => (by cases hb), fun F' _ => ⟨a, vs, h1, .inr h2, al F'⟩⟩
theorem tu_P {K : PySem.W.Frag} {α β : Type} {ra : RP α} {rb : RP β} (f : TupR ra) (g : TupR rb) : TupR (pP K ra rb) := fun x v F ⟨a, u1, u2, h1, h2, h3, h4⟩ => by
  obtain ⟨bs, b1, b2⟩ := f _ _ _ h3
  obtain ⟨cs, c1, c2⟩ := g _ _ _ h4
  have fin : ∀ F', (∀ b ∈ bs ++ cs, F' b = F b) → ra.r x.1 u1 F' ∧ rb.r x.2 u2 F' := fun F' m => ⟨b2 F' fun b hb => m b (List.mem_append_left _ hb), c2 F' fun b hb => m b (List.mem_append_right _ hb)⟩
  have hbc : ∀ b ∈ bs ++ cs, ∃ o, F b = some o ∧ Loose o := fun b hb => (List.mem_append.mp hb).elim (b1 b) (c1 b)
  rcases h2 with h2 | h2
  · obtain ⟨o, ho, lo, hr⟩ := rd_loose h2
    exact ⟨a :: (bs ++ cs), fun b hb => (List.mem_cons.mp hb).elim (fun e => e ▸ ⟨o, ho, lo⟩) (hbc b), fun F' m => ⟨a, u1, u2, h1, .inl (hr F' ((m a List.mem_cons_self).trans ho)), (fin F' fun b hb => m b (List.mem_cons_of_mem _ hb)).1, (fin F' fun b hb => m b (List.mem_cons_of_mem _ hb)).2⟩⟩
  · exact ⟨bs ++ cs, hbc, fun F' m => ⟨a, u1, u2, h1, .inr h2, (fin F' m).1, (fin F' m).2⟩⟩
theorem tu_O {α : Type} {ra : RP α} (f : TupR ra) : TupR (pO ra) := fun x v F h => by
  cases x with
  | none => exact ⟨[], fun b hb => (by cases hb), fun F' _ => h⟩
  | some y =>
    obtain ⟨bs, b1, b2⟩ := f _ _ _ h.2
    exact ⟨bs, b1, fun F' m => ⟨h.1, b2 F' m⟩⟩
section
variable {P : Program} {w : World} {K : PySem.W.Frag} {mg : Str → Option Value} {base : Heap} {N : List Str} {sc : Scope} {fn : Str → Bool} {k : Nat}
variable {M : Fm P w K mg base N sc fn k}
variable {S S1 S2 : Type} {O : S → Res} {Γ Δ : Asrt} {s : S} {α β γ ρ : Type} {ra : RP α} {rb : RP β} {rc : RP γ} {A : ρ → VA}
/-- both of two -/
theorem foc_both {T1 T2 : Type} {O1 : S1 → Res} {O2 : S2 → Res} {P1 : T1 → Res} {P2 : T2 → Res} {g1 : S1 → T1} {p1 : S1 → T1 → S1} {g2 : S2 → T2} {p2 : S2 → T2 → S2} (f1 : Foc O1 P1 g1 p1) (f2 : Foc O2 P2 g2 p2) :
    Foc (resP O1 O2) (resP P1 P2) (fun s => (g1 s.1, g2 s.2)) (fun s z => (p1 s.1 z.1, p2 s.2 z.2)) := ⟨fun {s F h} ⟨k1, k2, e, q1, q2⟩ => by
  obtain ⟨a1, a2, pm, o, back⟩ := f1.split q1
  obtain ⟨b1, b2, pm2, o2, back2⟩ := f2.split q2
  subst e
  refine ⟨a1 ++ b1, a2 ++ b2, ?_, ⟨a1, b1, rfl, o, o2⟩, fun F' s1 g' e1 ⟨c1, c2, ec, d1, d2⟩ => ?_⟩
  · refine (pm.append pm2).trans ?_
    rw [List.append_assoc, List.append_assoc]
    refine List.Perm.append_left _ ?_
    rw [← List.append_assoc, ← List.append_assoc]
    exact List.perm_append_comm.append_right _
  · obtain ⟨h', p', q'⟩ := back F' s1.1 c1 e1 d1
    obtain ⟨h2', p2', q2'⟩ := back2 F' s1.2 c2 e1 d2
    subst ec
    refine ⟨h' ++ h2', ?_, h', h2', rfl, q', q2'⟩
    refine (p'.append p2').trans ?_
    rw [List.append_assoc, List.append_assoc]
    refine List.Perm.append_left _ ?_
    rw [← List.append_assoc, ← List.append_assoc]
    exact List.perm_append_comm.append_right _⟩
/-! ### an instance is only looked at -/
theorem Sat.get {F : Hp} : ∀ {Γ : Asrt} {σ : L2.St} {h : HL} {i : Nat} {r : RP α} {x : α}, Sat Γ σ F h → Γ[i]? = some (some (Sm.fz r x)) → ∃ v, σ[i]? = some (some v) ∧ r.r x v F := fun q e => by
  obtain ⟨v, h1, h2, a, _, ⟨_, c⟩, _⟩ := q.at e
  exact ⟨v, a, c⟩
theorem Sat.put0 {F : Hp} {Δ : Asrt} {σ : L2.St} {i : Nat} {r : RP α} {x : α} {v : V} (q : Sat Δ σ F []) (l : i < Δ.length) (ev : σ[i]? = some (some v)) (rv : r.r x v F) : Sat (Δ.set i (some (Sm.fz r x))) σ F [] := by
  obtain ⟨h', h0, e1, e2, e3⟩ := q.put (hv := []) (A := Sm.fz r x) (v := v) l ⟨rfl, rv⟩
  have : h' = [] := List.sublist_nil.mp e1
  subst this
  have : h0 = [] := List.Perm.eq_nil e2
  subst this
  rw [set_same ev] at e3
  exact e3
theorem xe_peekR {O1 : Addr → S1 → Res} {r1 : RP S1} {a : Addr} {get : S → S1} {put : S → S1 → S} {e : Expr} {wd : S1 → (β → Prop) → Prop} (i : Nat) (foc : Foc O (O1 a) get put) (hz : ∀ st F h F', (O1 a st).p F h → Same F F' → (∀ p ∈ h, F' p.1 = some p.2) → r1.r st (.ref a) F')
    (hΓ : Γ[i]? = some (some (fz pA a))) (hp : Pk K Γ Δ) (hi : i < Δ.length := by decide) (tu : TupR rb) (h : ∀ st, XE M (fun _ : Unit => emp) (Δ.set i (some (fz r1 st))) () e (fz rb) (fun k => wd st fun x => k x ())) :
    XE M O Γ s e (fz rb) (fun k => wd (get s) fun x => k x s) := by
  intro HI C Q σ F H st hq hc
  obtain ⟨h1, h2, sa, so, ok⟩ := st
  obtain ⟨g1, g2, pm, o1, back⟩ := foc.split so
  have okp : Ok F ((h1 ++ g1) ++ g2) HI H := ok.perm (by rw [List.append_assoc]; exact List.Perm.append_left _ pm)
  obtain ⟨k1, e1, m1⟩ := frA_ok okp.hide
  obtain ⟨v0, ev, r0⟩ := sa.get hΓ
  have r0 : v0 = .ref a := r0
  subst r0
  have sa1 : Sat Δ σ (frA F (h1 ++ g1)) [] := hp.sat e1 sa fun p hp => m1 p (List.mem_append_left _ hp)
  have sa2 := sa1.put0 hi ev (hz _ F g1 _ o1 e1 fun p hp => m1 p (List.mem_append_right _ hp))
  refine h (get s) (Sm.hide HI g2) (fun x _ => C x s) Q σ (frA F (h1 ++ g1)) H ⟨[], [], sa2, rfl, k1⟩ (fun x s' v F' H' c e2 sv => ?_) hc
  obtain ⟨hv, l1, l2, ⟨hv0, rv⟩, _, _, ok'⟩ := sv
  have bk := okp.back e2 ok'
  have st2 : Stt O HI Γ s σ F H' := ⟨h1, h2, sa, so, bk.perm (by rw [List.append_assoc]; exact List.Perm.append_left _ pm.symm)⟩
  obtain ⟨bs, b1, b2⟩ := tu _ _ _ rv
  obtain ⟨F3, e3, st3, m3⟩ := st2.grow (bs := bs) fun b hb => (b1 b hb).imp fun o q => ⟨ok'.fz _ _ q.1, q.2⟩
  refine hq x s v F3 H' c e3 (st3.val (b2 F3 fun b hb => ?_))
  obtain ⟨o, q, _⟩ := b1 b hb
  rw [m3 b hb, q]; exact ok'.fz _ _ q
/-- .. and a list is made -/
theorem xe_peekRL {O1 : Addr → S1 → Res} {r1 : RP S1} {a : Addr} {get : S → S1} {put : S → S1 → S} {e : Expr} {wd : S1 → (List β → Prop) → Prop} (i : Nat) (foc : Foc O (O1 a) get put) (hz : ∀ st F h F', (O1 a st).p F h → Same F F' → (∀ p ∈ h, F' p.1 = some p.2) → r1.r st (.ref a) F')
    (hΓ : Γ[i]? = some (some (fz pA a))) (hp : Pk K Γ Δ) (hi : i < Δ.length := by decide) (hf : FlatR rb) (h : ∀ st, XE M (fun _ : Unit => emp) (Δ.set i (some (fz r1 st))) () e (ol rb) (fun k => wd st fun x => k x ())) :
    XE M O Γ s e (ol rb) (fun k => wd (get s) fun x => k x s) := by
  intro HI C Q σ F H st hq hc
  obtain ⟨h1, h2, sa, so, ok⟩ := st
  obtain ⟨g1, g2, pm, o1, back⟩ := foc.split so
  have okp : Ok F ((h1 ++ g1) ++ g2) HI H := ok.perm (by rw [List.append_assoc]; exact List.Perm.append_left _ pm)
  obtain ⟨k1, e1, m1⟩ := frA_ok okp.hide
  obtain ⟨v0, ev, r0⟩ := sa.get hΓ
  have r0 : v0 = .ref a := r0
  subst r0
  have sa1 : Sat Δ σ (frA F (h1 ++ g1)) [] := hp.sat e1 sa fun p hp => m1 p (List.mem_append_left _ hp)
  have sa2 := sa1.put0 hi ev (hz _ F g1 _ o1 e1 fun p hp => m1 p (List.mem_append_right _ hp))
  refine h (get s) (Sm.hide HI g2) (fun x _ => C x s) Q σ (frA F (h1 ++ g1)) H ⟨[], [], sa2, rfl, k1⟩ (fun x s' v F' H' c e2 sv => ?_) hc
  obtain ⟨hv, l1, l2, ⟨ad, vs, ev2, eh, rv⟩, _, _, ok'⟩ := sv
  subst eh
  have bk := okp.back e2 ok'
  obtain ⟨w1, w2, w3⟩ := ok'.own _ List.mem_cons_self
  have na : ad ∉ ((h1 ++ g1) ++ g2).map (·.1) := fun q => by
    obtain ⟨p, hp, e⟩ := List.mem_map.mp q
    rcases List.mem_append.mp hp with hp | hp
    · have := e2 _ _ (m1 p hp)
      rw [e] at this
      rw [w2] at this; cases this
    · have nd := okp.nd
      rw [List.map_append] at nd
      unfold Sm.hide at w3
      rw [← e, lookup_of_mem (List.nodup_append.mp nd).2.1 hp] at w3; cases w3
  have nF : F ad = none := by
    cases q : F ad with
    | none => rfl
    | some x =>
      have := e2 _ _ (e1 _ _ q)
      rw [w2] at this; cases this
  have nI : HI ad = none := by
    cases q : HI ad with
    | none => rfl
    | some x =>
      unfold Sm.hide at w3
      cases z : g2.lookup ad with
      | none => rw [z] at w3; rw [q] at w3; cases w3
      | some o => rw [z] at w3; cases w3
  have ok2 : Ok F ((ad, .lst vs) :: ((h1 ++ g1) ++ g2)) HI H' := ⟨bk.fz, fun p hp => by
      rcases List.mem_cons.mp hp with rfl | hp
      · exact ⟨w1, nF, nI⟩
      · exact bk.own p hp, List.nodup_cons.mpr ⟨na, bk.nd⟩, bk.hid, fun p hp => (List.mem_cons.mp hp).elim (fun e => e ▸ ok'.nt _ List.mem_cons_self) (bk.nt p), bk.hnt⟩
  refine hq x s v F H' c (Same.refl _) ⟨[(ad, .lst vs)], h1, h2, ⟨ad, vs, ev2, rfl, rv.imp fun _ _ q => hf _ _ _ _ q⟩, sa, so, ok2.perm ?_⟩
  refine List.Perm.cons _ ?_
  rw [List.append_assoc]
  exact List.Perm.append_left _ pm.symm
/-! ### fields -/
theorem oFs_b {f2 : Str} {b : Int} {v2 : V} : (oFs f2 b v2).lookup ("bits" : Str) = some (V.int b) := rfl
theorem oFs_2 {f2 : Str} {b : Int} {v2 : V} (h : ("bits" == f2) = false) : (oFs f2 b v2).lookup f2 = some v2 := by
  have h1 : (f2 == ("bits" : Str)) = false := by rw [BEq.comm]; exact h
  show List.lookup f2 [(("bits" : Str), V.int b), (f2, v2)] = some v2
  rw [List.lookup_cons, h1]
  show List.lookup f2 [(f2, v2)] = some v2
  simp [List.lookup]
theorem oFs_no {f2 m : Str} {b : Int} {v2 : V} (h : (m == ("bits" : Str)) = false) (h2 : (m == f2) = false) : (oFs f2 b v2).lookup m = none := by
  show List.lookup m [(("bits" : Str), V.int b), (f2, v2)] = none
  rw [List.lookup_cons, h]
  show List.lookup m [(f2, v2)] = none
  rw [List.lookup_cons, h2]
  rfl
theorem oFs_putb {f2 : Str} {b c : Int} {v2 : V} : putF "bits" (.int c) (oFs f2 b v2) = oFs f2 c v2 := by
  show (if ("bits" : Str) = "bits" then _ else _) = _
  rw [if_pos rfl]; rfl
theorem oFs_put2 {f2 : Str} {b : Int} {v2 v3 : V} (h : ("bits" == f2) = false) : putF f2 v3 (oFs f2 b v2) = oFs f2 b v3 := by
  show (if ("bits" : Str) = f2 then _ else (("bits" : Str), V.int b) :: (if f2 = f2 then _ else _)) = _
  rw [if_neg (fun e => by rw [beq_eq_false_iff_ne] at h; exact h e), if_pos rfl]; rfl
/-- facts of an own class -/
structure ClsO (K : PySem.W.Frag) (C : Addr) (f2 : Str) : Prop where
  cl : Cls K C
  n1 : NoAttr K C "bits"
  n2 : NoAttr K C f2
  ne : ("bits" == f2) = false
section
variable {C : Addr} {f2 : Str} {B : β → VA} {o : Expr} {apos pos : Pos} {wo : (Int × β → S → Prop) → Prop}
theorem xe_fldb (T : ClsO K C f2) (ho : XE M O Γ s o (fz (pOb C f2 rb)) wo) (hb : ∀ env, attributeBase o "bits" env (eval o env) = eval o env := by intro _; rfl) : XE M O Γ s (.Attribute o "bits" pos) (fz pI) (fun k => wo fun st s1 => k st.1 s1) := by
  intro HI D Q σ F H st hq hc
  refine ⟨tFld K (rdE M o) "bits", fun i => (by have h := pe_fld (pos := pos) (rdE_ok (M := M) i) (hb (M.X i).env); rw [M.kf i] at h; exact h), ho HI _ _ σ F H st (fun x s1 v F1 H1 c1 e1 sv => ?_) hc⟩
  obtain ⟨⟨a, dx, v2, ev, hF, _⟩, st1⟩ := sv.fz
  subst ev
  exact ⟨a, C, dx, _, _, rfl, st1.ok _ _ hF, T.cl, T.n1, oFs_b, hq _ s1 _ F1 H1 c1 e1 (st1.val rfl)⟩
theorem xe_fld2 (T : ClsO K C f2) (ho : XE M O Γ s o (fz (pOb C f2 rb)) wo) (hb : ∀ env, attributeBase o f2 env (eval o env) = eval o env := by intro _; rfl) : XE M O Γ s (.Attribute o f2 pos) (fz rb) (fun k => wo fun st s1 => k st.2 s1) := by
  intro HI D Q σ F H st hq hc
  refine ⟨tFld K (rdE M o) f2, fun i => (by have h := pe_fld (pos := pos) (rdE_ok (M := M) i) (hb (M.X i).env); rw [M.kf i] at h; exact h), ho HI _ _ σ F H st (fun x s1 v F1 H1 c1 e1 sv => ?_) hc⟩
  obtain ⟨⟨a, dx, v2, ev, hF, r2⟩, st1⟩ := sv.fz
  subst ev
  exact ⟨a, C, dx, _, _, rfl, st1.ok _ _ hF, T.cl, T.n2, oFs_2 T.ne, hq _ s1 _ F1 H1 c1 e1 (st1.val r2)⟩
end
/-! ### methods -/
structure HasM (P : Program) (w : World) (K : PySem.W.Frag) (mg : Str → Option Value) (base : Heap) (C : Addr) (m : Str) (j : Nat) (ps : List Str) (sp : Sp) : Prop where
  ex : ∃ f fd, Meth K C m f ∧ Binds K fd ps [] ∧ FnOk P w K mg base CX0 j f fd ps sp
def MethT (o : Expr) (m : Str) (apos : Pos) (es : List Expr) (pos : Pos) : Prop := ∀ env, ∃ pl : Sem Bool, eval (.Call (.Attribute o m apos) es [] pos) env = (do
  let ov ← eval o env
  standAt apos.atName
  let (f, first) ← holding [ov] (getMethod ov m pl)
  callWith pos f first (backTo pos (starEach es env)) (backToKw pos (keywordEach [] env)))
section
variable {C : Addr} {f2 m : Str} {B : β → VA} {o e : Expr} {es : List Expr} {apos pos p1 : Pos} {wo : (Int × β → S → Prop) → Prop} {j : Nat} {ps : List Str} {αs : Type}
/-- o.m(..), o only looked at -/
theorem xe_meth {PA : αs → List VA} {A' : αs → List VA} {mm : (Int × β) × αs → Unit → (ρ → Unit → Prop) → Prop} {wa : S → (αs → S → Prop) → Prop} (T : ClsO K C f2) (h : HasM P w K mg base C m j ps (SpF Unit (fun _ (x : (Int × β) × αs) => fz (pOb C f2 rb) x.1 :: PA x.2) (fun _ _ => emp) A mm))
    (ho : XE M O Γ s o (fz (pOb C f2 rb)) wo) (ha : ∀ s', XA M O Γ s' (e :: es) A' (wa s')) (hA : ∀ z, A' z = PA z := by intro _; rfl) (hj : j ≤ k := by first | decide | omega) (hm1 : (m == ("bits" : Str)) = false := by decide) (hm2 : (m == f2) = false := by decide)
    (ht : MethT o m apos (e :: es) pos := by intro _; exact ⟨_, rfl⟩) (hs : NoStar e := by intro _ _; rfl) (hpl : ∀ env, (backTo pos (starEach es env)).any (·.1) = false := by intro _; rfl) :
    XE M O Γ s (.Call (.Attribute o m apos) (e :: es) [] pos) A (fun k => wo fun st s1 => wa s1 fun z s2 => mm (st, z) () fun y _ => k y s2) := by
  intro HI D Q σ F H st hq hc
  obtain ⟨f, fd, e1, e3, e4⟩ := h.ex
  refine ⟨_, fun i => by
    obtain ⟨pl, q⟩ := ht (M.X i).env
    exact pe_meth (pl := pl) (sp := SpF Unit (fun _ (x : (Int × β) × αs) => fz (pOb C f2 rb) x.1 :: PA x.2) (fun _ _ => emp) A mm) (dvs := []) (ds := []) (E := E0) (rdE_ok (M := M) i) (by rw [M.kf]; exact T.cl) (by rw [M.kf]; exact e1) (by rw [M.prog, M.wd, M.kf, M.mgl, M.bas]; exact e4) ((M.room i).mono hj) (by rw [M.kf]; exact e3) .nil pass0 (rdA_ok i) (hs _ _) (hpl _) q, ?_⟩
  refine ho HI _ _ σ F H st (fun x s1 v F1 H1 c1 ex1 sv => ?_) hc
  obtain ⟨⟨a, dx, v2, ev, hF, r2⟩, st1⟩ := sv.fz
  subst ev
  refine ⟨a, dx, _, rfl, st1.ok _ _ hF, oFs_no hm1 hm2, ?_⟩
  refine ha s1 HI _ _ σ F1 H1 st1 (fun z s2 vs F2 H2 c2 ex2 al st2 => ?_) c1
  rw [hA] at al
  obtain ⟨h1, h2, sa, so, ok⟩ := st2
  rw [List.append_nil]
  have okp : Ok F2 ([] ++ (h1 ++ h2)) HI H2 := ok
  refine ⟨(), (x, z), (), F2, Sm.hide HI (h1 ++ h2), [], ⟨⟨rfl, a, dx, v2, rfl, ex2 _ _ hF, rb.mono ex2 r2⟩, al⟩, rfl, okp.hide, _, fun y s5 c v F' hv h2' H' e3 av o2 ok2 => ?_, c2⟩
  have o2 : h2' = [] := o2
  subst o2
  rw [List.append_nil] at ok2
  exact hq y s2 v F' H' c (ex1.trans (ex2.trans e3)) ⟨hv, h1, h2, av, sa.mono e3, (O s2).mono e3 so, okp.unhide ok2⟩
/-- o.m() -/
theorem xe_meth0 {mm : (Int × β) × Unit → Unit → (ρ → Unit → Prop) → Prop} (T : ClsO K C f2) (h : HasM P w K mg base C m j ps (SpF Unit (fun _ (x : (Int × β) × Unit) => [fz (pOb C f2 rb) x.1]) (fun _ _ => emp) A mm))
    (ho : XE M O Γ s o (fz (pOb C f2 rb)) wo) (hj : j ≤ k := by first | decide | omega) (hm1 : (m == ("bits" : Str)) = false := by decide) (hm2 : (m == f2) = false := by decide)
    (ht : MethT o m apos [] pos := by intro _; exact ⟨_, rfl⟩) :
    XE M O Γ s (.Call (.Attribute o m apos) [] [] pos) A (fun k => wo fun st s1 => mm (st, ()) () fun y _ => k y s1) := by
  intro HI D Q σ F H st hq hc
  obtain ⟨f, fd, e1, e3, e4⟩ := h.ex
  refine ⟨_, fun i => by
    obtain ⟨pl, q⟩ := ht (M.X i).env
    exact pe_meth0 (pl := pl) (sp := SpF Unit (fun _ (x : (Int × β) × Unit) => [fz (pOb C f2 rb) x.1]) (fun _ _ => emp) A mm) (dvs := []) (ds := []) (E := E0) (rdE_ok (M := M) i) (by rw [M.kf]; exact T.cl) (by rw [M.kf]; exact e1) (by rw [M.prog, M.wd, M.kf, M.mgl, M.bas]; exact e4) ((M.room i).mono hj) (by rw [M.kf]; exact e3) .nil pass0 q, ?_⟩
  refine ho HI _ _ σ F H st (fun x s1 v F1 H1 c1 ex1 sv => ?_) hc
  obtain ⟨⟨a, dx, v2, ev, hF, r2⟩, st1⟩ := sv.fz
  subst ev
  refine ⟨a, dx, _, rfl, st1.ok _ _ hF, oFs_no hm1 hm2, ?_⟩
  obtain ⟨h1, h2, sa, so, ok⟩ := st1
  have okp : Ok F1 ([] ++ (h1 ++ h2)) HI H1 := ok
  refine ⟨(), (x, ()), (), F1, Sm.hide HI (h1 ++ h2), [], ⟨⟨rfl, a, dx, v2, rfl, hF, r2⟩, trivial⟩, rfl, okp.hide, _, fun y s5 c v F' hv h2' H' e3 av o2 ok2 => ?_, c1⟩
  have o2 : h2' = [] := o2
  subst o2
  rw [List.append_nil] at ok2
  exact hq y s1 v F' H' c (ex1.trans e3) ⟨hv, h1, h2, av, sa.mono e3, (O s1).mono e3 so, okp.unhide ok2⟩
/-- x.m(..), x stands at a known address -/
theorem xe_methR {x : Str} {a : Addr} {i : Nat} {get : S → Int × β} {put : S → Int × β → S} {PA : αs → List VA} {A' : αs → List VA} {mm : αs → Int × β → (ρ → Int × β → Prop) → Prop} {wa : (αs → S → Prop) → Prop} (foc : Foc O (resOb C f2 B a) get put) (hΓ : Γ[i]? = some (some (fz pA a))) (T : ClsO K C f2)
    (h : HasM P w K mg base C m j ps (SpF Addr (fun ad z => fz pA ad :: PA z) (resOb C f2 B) A mm)) (ha : XA M O Γ s (e :: es) A' wa) (hA : ∀ z, A' z = PA z := by intro _; rfl) (hj : j ≤ k := by first | decide | omega) (hm1 : (m == ("bits" : Str)) = false := by decide) (hm2 : (m == f2) = false := by decide)
    (ht : MethT (.Name x p1) m apos (e :: es) pos := by intro _; exact ⟨_, rfl⟩) (hs : NoStar e := by intro _ _; rfl) (hpl : ∀ env, (backTo pos (starEach es env)).any (·.1) = false := by intro _; rfl)
    (hN : N[i]? = some x := by rfl) (hv : Vis sc x := by first | exact Or.inl rfl | exact Or.inr (Or.inl rfl) | exact Or.inr (Or.inr rfl)) (hd : (x == ("__debug__" : Str)) = false := by decide) (hcd : (x == ("__classdict__" : Str)) = false := by decide) :
    XE M O Γ s (.Call (.Attribute (.Name x p1) m apos) (e :: es) [] pos) A (fun k => wa fun z s1 => mm z (get s1) fun y s2 => k y (put s1 s2)) := by
  intro HI D Q σ F H st hq hc
  obtain ⟨f, fd, e1, e3, e4⟩ := h.ex
  refine ⟨_, fun q => by
    obtain ⟨pl, q1⟩ := ht (M.X q).env
    exact pe_meth (pl := pl) (sp := SpF Addr (fun ad z => fz pA ad :: PA z) (resOb C f2 B) A mm) (dvs := []) (ds := []) (E := E0) (pe_nameO (M := M) (pos := p1) hN hv hd hcd q) (by rw [M.kf]; exact T.cl) (by rw [M.kf]; exact e1) (by rw [M.prog, M.wd, M.kf, M.mgl, M.bas]; exact e4) ((M.room q).mono hj) (by rw [M.kf]; exact e3) .nil pass0 (rdA_ok q) (hs _ _) (hpl _) q1, ?_⟩
  obtain ⟨v, ev, r⟩ := st.slot hΓ
  have r : v = .ref a := r
  subst r
  refine ⟨.ref a, ev, ?_⟩
  obtain ⟨k1, k2, ⟨dx, v2, h2, eg, bg⟩, okg, _⟩ := st.res foc
  subst eg
  refine ⟨a, dx, _, rfl, (okg.own _ List.mem_cons_self).1, oFs_no hm1 hm2, ?_⟩
  refine ha HI _ _ σ F H st (fun z s1 vs F1 H1 c1 ex al st1 => ?_) hc
  rw [hA] at al
  obtain ⟨h1, h2, sa, so, ok⟩ := st1
  obtain ⟨g1, g2, pm, so1, back⟩ := foc.split so
  have okp : Ok F1 (g1 ++ (g2 ++ h1)) HI H1 := ok.perm (by
    refine (List.perm_append_comm).trans ?_
    refine (pm.append_right h1).trans ?_
    rw [List.append_assoc])
  rw [List.append_nil]
  refine ⟨a, z, get s1, F1, Sm.hide HI (g2 ++ h1), g1, ⟨⟨rfl, rfl⟩, al⟩, so1, okp.hide, _, fun y s2 c v F' hv h2' H' e3 av o2 ok2 => ?_, c1⟩
  obtain ⟨h', p', q'⟩ := back F' s2 h2' e3 o2
  refine hq y (put s1 s2) v F' H' c (ex.trans e3) ⟨hv, h1, h', av, sa.mono e3, q', ?_⟩
  have ok3 := okp.unhide ok2
  refine ok3.perm ?_
  rw [List.append_assoc]
  refine List.Perm.append_left hv ?_
  refine List.Perm.trans ?_ List.perm_append_comm
  refine List.Perm.trans ?_ (p'.symm.append_right h1)
  rw [List.append_assoc]
end
end
end Sm

set_option Elab.async false
set_option linter.all false
set_option maxRecDepth 100000
set_option maxHeartbeats 4000000
/-! own classes of two fields: made, their fields stored, their list changed -/
namespace Sm
open PySem PySem.Spec PyProof.Rows L2
/-! ### xs.remove(t), t a text that is there -/
def strE (k : Str) : Value → Bool | .str a _ => a.cps.toList == k.cps.toList | _ => false
theorem str_of_cps {a k : Str} (h : a.cps.toList = k.cps.toList) : a = k := by
  cases a; cases k; simpa using h
theorem strE_gives {k : Str} {t : Tok} : ∀ {us : List Value} {ts : List Str}, Vals (ts.map V.str) us → ∀ y ∈ us, MeetsSeq.EqGives y (.str k t) (strE k y) := by
  intro us ts h y hy
  obtain ⟨i, hi, e⟩ := List.getElem_of_mem hy
  have hl := h.length
  rw [List.length_map] at hl
  have hi2 : i < ts.length := by omega
  obtain ⟨u, hu, ru⟩ := h.get (i := i) (x := V.str ts[i]) (by rw [List.getElem?_map, List.getElem?_eq_getElem hi2]; rfl)
  rw [List.getElem?_eq_getElem hi, e] at hu
  cases hu
  obtain ⟨t', rfl⟩ := ru
  exact SeqRoads2.EqGives.str _ _ t' t
section
variable {X : Cx}
def rRemT : V → List V → Hp → VK → Prop := fun x xs H Q => ∃ (l : Addr) (ts : List Str) (k : Str) (j : Nat), x = .ref l ∧ xs = [.str k] ∧ H l = some (.lst (ts.map V.str)) ∧ ts[j]? = some k ∧ (∀ m : Nat, m < j → ts[m]? ≠ some k) ∧ Q .non (upd H l (.lst ((ts.map V.str).eraseIdx j)))
theorem mt_removeT : MtM X "list.remove" rRemT := by
  intro pins s σ H x xs v us Q I rx rxs h
  obtain ⟨l, ts, k, j, rfl, rfl, hH, hj, hno, q⟩ := h
  cases rx
  obtain ⟨u, rfl, ru⟩ := rxs.one
  obtain ⟨t, rfl⟩ := ru
  obtain ⟨z, its, n, r, hl, e⟩ := I.lstM hH
  rw [List.length_map] at hl z
  have hjn : j < ts.length := (List.getElem?_eq_some_iff.mp hj).1
  have hjl : j < its.toArray.size := by rw [List.size_toArray]; omega
  have at_ : ∀ m (hm : m < its.length) (hmt : m < ts.length), ∃ tm, its[m] = .str ts[m] tm := fun m hm hmt => by
    obtain ⟨u, hu, ru⟩ := r.get (i := m) (x := V.str ts[m]) (by rw [List.getElem?_map, List.getElem?_eq_getElem hmt]; rfl)
    rw [List.getElem?_eq_getElem hm] at hu
    cases hu
    exact ru
  refine call_meets PySem.F.slot_list_remove ⟨_, e, rfl⟩ PySem.F.entry_list_remove (PySem.F.args_list_remove_2 _ _)
    (MeetsSeq.list_remove l its.toArray n (.str k t) (strE k) (fun y hy => strE_gives r y (by simpa using hy)) j hjl ?_ ?_ (by rw [List.size_toArray]; omega)) ⟨e, ?_⟩
  · obtain ⟨tm, e1⟩ := at_ j (by omega) hjn
    have e2 : its.toArray[j] = .str ts[j] tm := by simpa using e1
    rw [e2]
    have : ts[j] = k := by rw [List.getElem?_eq_getElem hjn] at hj; exact Option.some.inj hj
    show (ts[j].cps.toList == k.cps.toList) = true
    rw [this]; exact beq_self_eq_true _
  · intro m hm hmj
    have hmn : m < ts.length := by omega
    obtain ⟨tm, e1⟩ := at_ m (by omega) hmn
    have e2 : its.toArray[m] = .str ts[m] tm := by simpa using e1
    rw [e2]
    show (ts[m].cps.toList == k.cps.toList) = false
    refine beq_eq_false_iff_ne.mpr fun e3 => hno m hmj ?_
    rw [List.getElem?_eq_getElem hmn, str_of_cps e3]
  · have rr := r.eraseIdx j
    refine ⟨.non, _, I.lset (its' := its.eraseIdx j) (t' := s.toks) hH e ?_ rr ?_, rfl, q⟩
    · show its.toArray.eraseIdxIfInBounds j = (its.eraseIdx j).toArray
      rw [List.eraseIdxIfInBounds_toArray]
    · have z2 := List.length_eraseIdx_le (ts.map V.str) j
      rw [List.length_map] at z2
      omega
end
/-! ### an instance that is being made -/
inductive Ini (β : Type) | raw | half (b : Int) | full (st : Int × β)
def resI {β : Type} (C : Addr) (f2 : Str) (B : β → VA) (a : Addr) : Ini β → Res
  | .raw => ⟨fun _ h => ∃ dx, h = [(a, .ins C dx [])], fun _ q => q⟩
  | .half b => ⟨fun _ h => ∃ dx, h = [(a, .ins C dx [(("bits" : Str), .int b)])], fun _ q => q⟩
  | .full st => resOb C f2 B a st
structure HasK (P : Program) (w : World) (K : PySem.W.Frag) (mg : Str → Option Value) (base : Heap) (x : Str) (C : Addr) (j : Nat) (ps : List Str) (sp : Sp) : Prop where
  ex : ∃ f fd, mg x = some (.ref C) ∧ Mk K C f ∧ Binds K fd ps [] ∧ FnOk P w K mg base CX0 j f fd ps sp
section
variable {P : Program} {w : World} {K : PySem.W.Frag} {mg : Str → Option Value} {base : Heap} {N : List Str} {sc : Scope} {fn : Str → Bool} {k : Nat}
variable {M : Fm P w K mg base N sc fn k}
variable {S S1 S2 : Type} {O : S → Res} {Γ Δ : Asrt} {s : S} {α β γ ρ : Type} {ra : RP α} {rb : RP β} {rc : RP γ} {A : ρ → VA}
section
variable {C C' : Addr} {f2 g2 m x : Str} {B : β → VA} {B' : γ → VA} {o e : Expr} {es rest : List Stmt} {ees : List Expr} {a : Addr} {i : Nat} {apos pos ap cp p0 p1 p2 : Pos} {HI F0 : Hp} {D : Ends}
/-- self.bits = e, in __init__ -/
theorem xs_inib {st0 : Ini β} {we : (Int → Ini β → Prop) → Prop} {Pk : Int → Prop} (T : ClsO K C f2) (hΓ : Γ[i]? = some (some (fz pA a))) (he : XE M (resI C f2 B a) Γ st0 e (fz pI) we) (hk : ∀ b, XSs M (resI C f2 B a) HI F0 Γ (.half b) rest D (Pk b))
    (hN : N[i]? = some x := by rfl) (hv : Vis sc x := by first | exact Or.inl rfl | exact Or.inr (Or.inl rfl) | exact Or.inr (Or.inr rfl)) (hd : (x == ("__debug__" : Str)) = false := by decide) (hcd : (x == ("__classdict__" : Str)) = false := by decide)
    (hs : ∀ j, swapsWith e (some (.Attribute (.Name x p1) "bits" p2)) pos.line (M.X j).env = pure false := by intro _; rfl) :
    XSs M (resI C f2 B a) HI F0 Γ st0 (.Assign [.Attribute (.Name x p1) "bits" p2] e pos :: rest) D (we fun b s1 => s1 = .raw ∧ Pk b) := by
  intro σ F H e0 st hp
  refine ⟨tSeq (sFld K (tVar i) (rdE M e) "bits") (rdSs M rest), fun j => pss_cons (by have h := ps_fld (pos := pos) (pos' := p2) (pe_nameO (M := M) (pos := p1) hN hv hd hcd j) (rdE_ok (M := M) j) (hs j); rw [M.kf j] at h; exact h) (rdSs_ok j), ?_⟩
  refine he HI _ _ σ F H st (fun b s1 v F1 H1 c1 ex1 sv1 => ?_) hp
  obtain ⟨rv, st1⟩ := sv1.fz
  obtain ⟨es1, c⟩ := c1
  subst es1
  obtain ⟨u, eu, r⟩ := st1.slot hΓ
  have r : u = .ref a := r
  subst r
  refine ⟨.ref a, eu, ?_⟩
  obtain ⟨g1, g2, ⟨dx, eg⟩, ok, back⟩ := st1.res foc_id
  subst eg
  refine ⟨a, C, dx, [], rfl, (ok.own _ List.mem_cons_self).1, T.cl, T.n1, by show 0 < 1000; decide, ?_⟩
  have rv : v = .int b := rv
  subst rv
  exact hk b σ F1 _ (e0.trans ex1) (back F1 _ (.half b) [(a, .ins C dx [(("bits" : Str), .int b)])] (Same.refl _) ⟨dx, rfl⟩ ok.set) c
/-- self.f2 = e, in __init__ -/
theorem xs_ini2 {st0 : Ini β} {we : (β → Ini β → Prop) → Prop} {Pk : β → Int → Prop} (T : ClsO K C f2) (hΓ : Γ[i]? = some (some (fz pA a))) (he : XE M (resI C f2 B a) Γ st0 e B we) (hk : ∀ y b, XSs M (resI C f2 B a) HI F0 Γ (.full (b, y)) rest D (Pk y b))
    (hN : N[i]? = some x := by rfl) (hv : Vis sc x := by first | exact Or.inl rfl | exact Or.inr (Or.inl rfl) | exact Or.inr (Or.inr rfl)) (hd : (x == ("__debug__" : Str)) = false := by decide) (hcd : (x == ("__classdict__" : Str)) = false := by decide)
    (hs : ∀ j, swapsWith e (some (.Attribute (.Name x p1) f2 p2)) pos.line (M.X j).env = pure false := by intro _; rfl) :
    XSs M (resI C f2 B a) HI F0 Γ st0 (.Assign [.Attribute (.Name x p1) f2 p2] e pos :: rest) D (we fun y s1 => ∃ b, s1 = .half b ∧ Pk y b) := by
  intro σ F H e0 st hp
  refine ⟨tSeq (sFld K (tVar i) (rdE M e) f2) (rdSs M rest), fun j => pss_cons (by have h := ps_fld (pos := pos) (pos' := p2) (pe_nameO (M := M) (pos := p1) hN hv hd hcd j) (rdE_ok (M := M) j) (hs j); rw [M.kf j] at h; exact h) (rdSs_ok j), ?_⟩
  refine he HI _ _ σ F H st (fun y s1 v F1 H1 c1 ex1 sv1 => ?_) hp
  obtain ⟨b, es1, c⟩ := c1
  subst es1
  obtain ⟨u, eu, r⟩ := sv1.drop.slot hΓ
  have r : u = .ref a := r
  subst r
  refine ⟨.ref a, eu, ?_⟩
  obtain ⟨hv', h1, h2, hb, sa, ⟨dx, eg⟩, ok⟩ := sv1
  subst eg
  have ok1 : Ok F1 ((a, .ins C dx [(("bits" : Str), .int b)]) :: (hv' ++ h1)) HI H1 := ok.perm (by
    rw [← List.append_assoc]
    exact List.perm_append_comm)
  refine ⟨a, C, dx, _, rfl, (ok1.own _ List.mem_cons_self).1, T.cl, T.n2, by show 1 < 1000; decide, ?_⟩
  have ep : putF f2 v [(("bits" : Str), V.int b)] = oFs f2 b v := by
    show (if ("bits" : Str) = f2 then _ else (("bits" : Str), V.int b) :: putF f2 v []) = _
    rw [if_neg (fun e => by have := T.ne; rw [beq_eq_false_iff_ne] at this; exact this e)]; rfl
  rw [ep]
  refine hk y b σ F1 _ (e0.trans ex1) ⟨h1, (a, .ins C dx (oFs f2 b v)) :: hv', sa, ⟨dx, v, hv', rfl, hb⟩, ?_⟩ c
  refine (ok1.set (o' := .ins C dx (oFs f2 b v))).perm ?_
  refine (List.perm_append_comm (l₁ := [(a, HO.ins C dx (oFs f2 b v))])).trans ?_
  refine (List.perm_append_comm.append_right _).trans ?_
  rw [List.append_assoc]
  exact List.Perm.append_left _ List.perm_append_comm
/-- C(e) -/
theorem xe_make {p : Pos} {αs : Type} {PA : αs → List VA} {A' : αs → List VA} {j : Nat} {ps : List Str} {mi : αs → Ini β → (Unit → Ini β → Prop) → Prop} {wa : (αs → S → Prop) → Prop} (h : HasK P w K mg base x C j ps (SpF Addr (fun ad z => fz pA ad :: PA z) (resI C f2 B) (fz pN) mi))
    (ha : XA M O Γ s (e :: ees) A' wa) (hA : ∀ z, A' z = PA z := by intro _; rfl) (hj : j + 1 ≤ k := by first | decide | omega) (hg : GlN sc x := by rfl) (hs : NoStar e := by intro _ _; rfl) (hpl : ∀ env, (backTo pos (starEach ees env)).any (·.1) = false := by intro _; rfl) (hdb : (x == ("__debug__" : Str)) = false := by decide) :
    XE M O Γ s (.Call (.Name x p) (e :: ees) [] pos) (okOb C f2 B) (fun k => wa fun z s1 => mi z .raw fun _ i => ∃ st, i = .full st ∧ k st s1) := by
  intro HI D Q σ F H st hq hc
  obtain ⟨f, fd, e1, e2, e3, e4⟩ := h.ex
  refine ⟨_, fun i => pe_make (sp := SpF Addr (fun ad z => fz pA ad :: PA z) (resI C f2 B) (fz pN) mi) (dvs := []) (ds := []) (E := E0) (by rw [M.kf]; exact e2) (by rw [M.prog, M.wd, M.kf, M.mgl, M.bas]; exact e4) ((M.room i).mono hj) (Gl.of hg i) (by rw [M.mgl]; exact e1) (by rw [M.kf]; exact e3) .nil pass0 (rdA_ok i) hdb (hs _ _) (hpl _), ?_⟩
  refine ha HI _ _ σ F H st (fun z s1 vs F1 H1 c1 ex al st1 => ?_) hc
  rw [hA] at al
  intro a dx na ndx nex
  rw [List.append_nil]
  obtain ⟨ed, st2⟩ := st1.newF (o := .own a) ndx
  obtain ⟨h1, h2, sa, so, ok⟩ := st2
  have okn := ok.newO (p := a) (o := .ins C dx []) (by rw [upd_ne nex.symm]; exact na)
  have okp : Ok (upd F1 dx (.own a)) ([(a, .ins C dx [])] ++ (h1 ++ h2)) HI (upd (upd H1 dx (.own a)) a (.ins C dx [])) := okn
  refine ⟨a, z, .raw, upd F1 dx (.own a), Sm.hide HI (h1 ++ h2), [(a, .ins C dx [])], ⟨⟨rfl, rfl⟩, al.mono ed⟩, ⟨dx, rfl⟩, okp.hide, _, fun y s2 c v F' hv h2' H' e3 av o2 ok2 => ?_, c1⟩
  obtain ⟨st', es, c⟩ := c
  subst es
  obtain ⟨ehv, ev⟩ := av
  subst ehv
  have ev : v = .non := ev
  refine ⟨ev, ?_⟩
  rw [List.nil_append] at ok2
  exact hq st' s1 (.ref a) F' H' c (ex.trans (ed.trans e3)) ⟨h2', h1, h2, ⟨a, rfl, o2⟩, sa.mono e3, (O s1).mono e3 so, okp.unhide ok2⟩
/-- C() -/
theorem xe_make0 {p : Pos} {j : Nat} {ps : List Str} {mi : Unit → Ini β → (Unit → Ini β → Prop) → Prop} (h : HasK P w K mg base x C j ps (SpF Addr (fun ad (_ : Unit) => [fz pA ad]) (resI C f2 B) (fz pN) mi))
    (hj : j + 1 ≤ k := by first | decide | omega) (hg : GlN sc x := by rfl) (hdb : (x == ("__debug__" : Str)) = false := by decide) :
    XE M O Γ s (.Call (.Name x p) [] [] pos) (okOb C f2 B) (fun k => mi () .raw fun _ i => ∃ st, i = .full st ∧ k st s) := by
  intro HI D Q σ F H st hq hc
  obtain ⟨f, fd, e1, e2, e3, e4⟩ := h.ex
  refine ⟨_, fun i => pe_make0 (sp := SpF Addr (fun ad (_ : Unit) => [fz pA ad]) (resI C f2 B) (fz pN) mi) (dvs := []) (ds := []) (E := E0) (by rw [M.kf]; exact e2) (by rw [M.prog, M.wd, M.kf, M.mgl, M.bas]; exact e4) ((M.room i).mono hj) (Gl.of hg i) (by rw [M.mgl]; exact e1) (by rw [M.kf]; exact e3) .nil pass0 hdb, ?_⟩
  intro a dx na ndx nex
  obtain ⟨ed, st2⟩ := st.newF (o := .own a) ndx
  obtain ⟨h1, h2, sa, so, ok⟩ := st2
  have okn := ok.newO (p := a) (o := .ins C dx []) (by rw [upd_ne nex.symm]; exact na)
  have okp : Ok (upd F dx (.own a)) ([(a, .ins C dx [])] ++ (h1 ++ h2)) HI (upd (upd H dx (.own a)) a (.ins C dx [])) := okn
  refine ⟨a, (), .raw, upd F dx (.own a), Sm.hide HI (h1 ++ h2), [(a, .ins C dx [])], ⟨⟨rfl, rfl⟩, trivial⟩, ⟨dx, rfl⟩, okp.hide, _, fun y s2 c v F' hv h2' H' e3 av o2 ok2 => ?_, hc⟩
  obtain ⟨st', es, c⟩ := c
  subst es
  obtain ⟨ehv, ev⟩ := av
  subst ehv
  have ev : v = .non := ev
  refine ⟨ev, ?_⟩
  rw [List.nil_append] at ok2
  exact hq st' s (.ref a) F' H' c (ed.trans e3) ⟨h2', h1, h2, ⟨a, rfl, o2⟩, sa.mono e3, (O s).mono e3 so, okp.unhide ok2⟩
/-! ### its fields changed -/
/-- what is evaluated while the resources are put aside -/
theorem aside {e : Expr} {A : ρ → VA} {we : (ρ → Unit → Prop) → Prop} (he : XE M (fun _ : Unit => emp) Γ () e A we) : XE M O Γ s e A (fun k => we fun x _ => k x s) := by
  intro HI D Q σ F H st hq hc
  obtain ⟨h1, h2, sa, so, ok⟩ := st
  have k1 := ok.hide
  refine he (Sm.hide HI h2) (fun x _ => D x s) Q σ F H ⟨h1, [], sa, rfl, by rw [List.append_nil]; exact k1⟩ (fun x s' v F' H' c e2 sv => ?_) hc
  obtain ⟨hv, l1, l2, av, sa', eo, ok'⟩ := sv
  have eo : l2 = [] := eo
  subst eo
  rw [List.append_nil] at ok'
  have ok2 := ok.unhide ok'
  exact hq x s v F' H' c e2 ⟨hv, l1, h2, av, sa', (O s).mono e2 so, by rw [← List.append_assoc]; exact ok2⟩
/-- the list in the field: it, what e is beside it, and what may stand there then -/
theorem fld_list {get : S → Int × List α} {put : S → Int × List α → S} {σ : L2.St} {HI' F1 H1 : Hp} {we : (α → Unit → Prop) → Prop} {CC : α → Prop} (foc : Foc O (resOb C f2 (fun xs => ol ra xs) a) get put) (st : Stt O HI' Γ s σ F1 H1) (he : XE M (fun _ : Unit => emp) Γ () e (fz ra) we)
    (hc : we fun y _ => CC y) : ∃ dx l vs, H1 a = some (.ins C dx (oFs f2 (get s).1 (.ref l))) ∧ H1 l = some (.lst vs) ∧ ∀ tq : V → Hp → Prop,
      (∀ y u F2 H2, Same F1 F2 → CC y → ra.r y u F2 → All2 (fun x v => ra.r x v F2) (get s).2 vs → H2 l = some (.lst vs) → (∀ zs ws, All2 (fun x v => ra.r x v F2) zs ws → Stt O HI' Γ (put s ((get s).1, zs)) σ F2 (upd H2 l (.lst ws))) → tq u H2) → rdE M e σ H1 tq := by
  obtain ⟨h1, h2, sa, so, ok⟩ := st
  obtain ⟨g1, g2, pm, ⟨dx, v2, hl, eg, l, vs, ev, ehl, al⟩, back⟩ := foc.split so
  subst eg ev ehl
  have okp : Ok F1 (h1 ++ ([(a, .ins C dx (oFs f2 (get s).1 (.ref l))), (l, .lst vs)] ++ g2)) HI' H1 := ok.perm (List.Perm.append_left _ pm)
  refine ⟨dx, l, vs, (okp.own _ (List.mem_append_right _ List.mem_cons_self)).1, (okp.own (l, .lst vs) (List.mem_append_right _ (by simp))).1, fun tq hq => ?_⟩
  refine he (Sm.hide HI' _) (fun y _ => CC y) _ σ F1 H1 ⟨h1, [], sa, rfl, by rw [List.append_nil]; exact okp.hide⟩ (fun y s' u F2 H2 c e2 sv => ?_) hc
  obtain ⟨hv, l1, l2, ⟨ehv, ru⟩, sa', eo, ok'⟩ := sv
  have eo : l2 = [] := eo
  subst eo ehv
  rw [List.append_nil, List.nil_append] at ok'
  have okf := okp.unhide ok'
  refine hq y u F2 H2 e2 c ru (al.imp fun _ _ q => ra.mono e2 q) (okf.own (l, .lst vs) (List.mem_append_right _ (by simp))).1 fun zs ws aw => ?_
  have ok3 : Ok F2 ((l, .lst vs) :: ((a, .ins C dx (oFs f2 (get s).1 (.ref l))) :: (g2 ++ l1))) HI' H2 := okf.perm (by
    refine List.perm_append_comm.trans ?_
    exact List.Perm.swap _ _ _)
  have ok4 := ok3.set (o' := .lst ws)
  obtain ⟨h', p', q'⟩ := back F2 ((get s).1, zs) [(a, .ins C dx (oFs f2 (get s).1 (.ref l))), (l, .lst ws)] e2 ⟨dx, .ref l, [(l, .lst ws)], rfl, l, ws, rfl, rfl, aw⟩
  refine ⟨l1, h', sa', q', ok4.perm ?_⟩
  refine (List.Perm.swap _ _ _).trans ?_
  refine List.Perm.trans ?_ List.perm_append_comm
  exact p'.symm.append_right l1
variable {get : S → Int × List α} {put : S → Int × List α → S}
/-- self.f2.append(e) -/
theorem xs_fappend {we : (α → Unit → Prop) → Prop} {Pk : S → Prop} (foc : Foc O (resOb C f2 (fun xs => ol ra xs) a) get put) (T : ClsO K C f2) (hΓ : Γ[i]? = some (some (fz pA a))) (he : XE M (fun _ : Unit => emp) Γ () e (fz ra) we) (hk : ∀ s', XSs M O HI F0 Γ s' rest D (Pk s'))
    (hN : N[i]? = some x := by rfl) (hv : Vis sc x := by first | exact Or.inl rfl | exact Or.inr (Or.inl rfl) | exact Or.inr (Or.inr rfl)) (hd : (x == ("__debug__" : Str)) = false := by decide) (hcd : (x == ("__classdict__" : Str)) = false := by decide)
    (hb0 : ∀ env, attributeBase (.Name x p0) f2 env (eval (.Name x p0) env) = eval (.Name x p0) env := by intro _; rfl) (hbase : ∀ env, attributeBase (.Attribute (.Name x p0) f2 p1) "append" env (eval (.Attribute (.Name x p0) f2 p1) env) = eval (.Attribute (.Name x p0) f2 p1) env := by intro _; rfl)
    (hns : NoStar e := by intro _ _; rfl) (hfew : ∀ env, ((backTo cp (starEach [e] env)).all (fun x => !x.1) && (backToKw cp (keywordEach [] env)).all (fun x => x.1.isSome) && decide ([e].length + ([] : List Keyword).length + (if ([] : List Keyword).isEmpty then 0 else 1) < 30)) = true := by intro _; rfl)
    (hline : (ap.endLine == cp.line) = true := by rfl) (hs : ∀ j, swapsWith (.Call (.Attribute (.Attribute (.Name x p0) f2 p1) "append" ap) [e] [] cp) none pos.line (M.X j).env = pure false := by intro _; rfl) :
    XSs M O HI F0 Γ s (.Expr (.Call (.Attribute (.Attribute (.Name x p0) f2 p1) "append" ap) [e] [] cp) pos :: rest) D (we fun y _ => (get s).2.length < sizeLine ∧ Pk (put s ((get s).1, (get s).2 ++ [y]))) := by
  intro σ F H e0 st hp
  refine ⟨_, fun j => pss_cons (ps_expr (by
    have h := pe_bm (X := M.X j) (cpos := cp) PySem.F.plainAttrs_list PySem.F.slot_list_append PySem.F.type_list_append mt_append (pe_fld (pe_nameO (M := M) (pos := p0) hN hv hd hcd j) (hb0 _)) (pa_cons (rdE_ok (M := M) j) pa_nil (hns _ _)) (hbase _) (hfew _) hline (hns _ _) rfl
    rw [M.kf j] at h; exact h) (hs j)) (rdSs_ok j), ?_⟩
  obtain ⟨v0, ev, r⟩ := st.slot hΓ
  have r : v0 = .ref a := r
  subst r
  obtain ⟨dx, l, vs, hA, hL, run⟩ := fld_list (CC := fun y => (get s).2.length < sizeLine ∧ Pk (put s ((get s).1, (get s).2 ++ [y]))) foc st he hp
  refine ⟨.ref a, ev, a, C, dx, _, .ref l, rfl, hA, T.cl, T.n2, oFs_2 T.ne, .inl ⟨rfl, vs, SqL.of hL⟩, ?_⟩
  refine run _ fun y u F2 H2 e2 c ru al hL2 fin => ?_
  refine ⟨l, vs, u, rfl, rfl, hL2, by rw [← al.length]; exact c.1, ?_⟩
  exact hk _ σ F2 _ (e0.trans e2) (fin _ _ (al.append (show All2 (fun x v => ra.r x v F2) [y] [u] from ⟨ru, trivial⟩))) c.2
end
section
variable {C : Addr} {f2 m x : Str} {e : Expr} {rest : List Stmt} {a : Addr} {i : Nat} {pos ap cp p0 p1 p2 : Pos} {HI F0 : Hp} {D : Ends} {get : S → Int × List Text} {put : S → Int × List Text → S}
theorem texts_of {F : Hp} : ∀ {xs : List Text} {vs : List V}, All2 (fun x v => pT.r x v F) xs vs → vs = (xs.map fun (t : Text) => (⟨t.toArray⟩ : Str)).map V.str
  | [], [], _ => rfl
  | x :: xs, v :: vs, ⟨a, b⟩ => by rw [List.map_cons, List.map_cons, ← texts_of b, ← a.1]
/-- self.f2.remove(e) -/
theorem xs_fremove {we : (Text → Unit → Prop) → Prop} {Pk : S → Prop} (foc : Foc O (resOb C f2 (fun xs => ol pT xs) a) get put) (T : ClsO K C f2) (hΓ : Γ[i]? = some (some (fz pA a))) (he : XE M (fun _ : Unit => emp) Γ () e (fz pT) we) (hk : ∀ s', XSs M O HI F0 Γ s' rest D (Pk s'))
    (hN : N[i]? = some x := by rfl) (hv : Vis sc x := by first | exact Or.inl rfl | exact Or.inr (Or.inl rfl) | exact Or.inr (Or.inr rfl)) (hd : (x == ("__debug__" : Str)) = false := by decide) (hcd : (x == ("__classdict__" : Str)) = false := by decide)
    (hb0 : ∀ env, attributeBase (.Name x p0) f2 env (eval (.Name x p0) env) = eval (.Name x p0) env := by intro _; rfl) (hbase : ∀ env, attributeBase (.Attribute (.Name x p0) f2 p1) "remove" env (eval (.Attribute (.Name x p0) f2 p1) env) = eval (.Attribute (.Name x p0) f2 p1) env := by intro _; rfl)
    (hns : NoStar e := by intro _ _; rfl) (hfew : ∀ env, ((backTo cp (starEach [e] env)).all (fun x => !x.1) && (backToKw cp (keywordEach [] env)).all (fun x => x.1.isSome) && decide ([e].length + ([] : List Keyword).length + (if ([] : List Keyword).isEmpty then 0 else 1) < 30)) = true := by intro _; rfl)
    (hline : (ap.endLine == cp.line) = true := by rfl) (hs : ∀ j, swapsWith (.Call (.Attribute (.Attribute (.Name x p0) f2 p1) "remove" ap) [e] [] cp) none pos.line (M.X j).env = pure false := by intro _; rfl) :
    XSs M O HI F0 Γ s (.Expr (.Call (.Attribute (.Attribute (.Name x p0) f2 p1) "remove" ap) [e] [] cp) pos :: rest) D (we fun y _ => ∃ j, (get s).2[j]? = some y ∧ (∀ m, m < j → (get s).2[m]? ≠ some y) ∧ Pk (put s ((get s).1, (get s).2.eraseIdx j))) := by
  intro σ F H e0 st hp
  refine ⟨_, fun j => pss_cons (ps_expr (by
    have h := pe_bm (X := M.X j) (cpos := cp) PySem.F.plainAttrs_list PySem.F.slot_list_remove PySem.F.type_list_remove mt_removeT (pe_fld (pe_nameO (M := M) (pos := p0) hN hv hd hcd j) (hb0 _)) (pa_cons (rdE_ok (M := M) j) pa_nil (hns _ _)) (hbase _) (hfew _) hline (hns _ _) rfl
    rw [M.kf j] at h; exact h) (hs j)) (rdSs_ok j), ?_⟩
  obtain ⟨v0, ev, r⟩ := st.slot hΓ
  have r : v0 = .ref a := r
  subst r
  obtain ⟨dx, l, vs, hA, hL, run⟩ := fld_list (CC := fun y => ∃ j, (get s).2[j]? = some y ∧ (∀ m, m < j → (get s).2[m]? ≠ some y) ∧ Pk (put s ((get s).1, (get s).2.eraseIdx j))) foc st he hp
  refine ⟨.ref a, ev, a, C, dx, _, .ref l, rfl, hA, T.cl, T.n2, oFs_2 T.ne, .inl ⟨rfl, vs, SqL.of hL⟩, ?_⟩
  refine run _ fun y u F2 H2 e2 c ru al hL2 fin => ?_
  obtain ⟨j, hj, hno, c⟩ := c
  have ev2 := texts_of al
  have inj : ∀ {t y : Text}, (⟨t.toArray⟩ : Str) = ⟨y.toArray⟩ → t = y := fun {t y} q => by injection q with q; simpa using congrArg Array.toList q
  refine ⟨l, (get s).2.map fun (t : Text) => (⟨t.toArray⟩ : Str), ⟨y.toArray⟩, j, rfl, by rw [ru.1], by rw [hL2, ← ev2], by rw [List.getElem?_map, hj]; rfl, fun m hm q => ?_, ?_⟩
  · rw [List.getElem?_map] at q
    cases z : (get s).2[m]? with
    | none => rw [z] at q; cases q
    | some t =>
      rw [z] at q
      exact hno m hm (by rw [z, inj (Option.some.inj q)])
  · rw [← ev2]
    exact hk _ σ F2 _ (e0.trans e2) (fin _ _ (al.eraseIdx j)) c
end
end
end Sm

set_option Elab.async false
set_option linter.all false
set_option maxRecDepth 100000
set_option maxHeartbeats 4000000
/-! a store of instances -/
namespace Sm
open PySem PySem.Spec PyProof.Rows L2
section
variable {β : Type}
/-- instances of a class, by their addresses -/
def stP (C : Addr) (f2 : Str) (B : β → VA) : List (Addr × Int × β) → Hp → HL → Prop
  | [], _, h => h = []
  | p :: l, F, h => ∃ g1 g2, h = g1 ++ g2 ∧ (resOb C f2 B p.1 p.2).p F g1 ∧ stP C f2 B l F g2
theorem stP.mono {C : Addr} {f2 : Str} {B : β → VA} {F F' : Hp} (e : Same F F') : ∀ {l : List (Addr × Int × β)} {h : HL}, stP C f2 B l F h → stP C f2 B l F' h
  | [], _, q => q
  | p :: _, _, ⟨g1, g2, a, b, c⟩ => ⟨g1, g2, a, (resOb C f2 B p.1 p.2).mono e b, stP.mono e c⟩
def resSt (C : Addr) (f2 : Str) (B : β → VA) (l : List (Addr × Int × β)) : Res := ⟨stP C f2 B l, fun e q => stP.mono e q⟩
/-- the state of the instance at a -/
def sget (l : List (Addr × Int × β)) (a : Addr) : Option (Int × β) := l.lookup a
/-- .. changed -/
def sput (l : List (Addr × Int × β)) (a : Addr) (st : Int × β) : List (Addr × Int × β) :=
  match l with
  | [] => []
  | p :: r => if p.1 = a then (a, st) :: r else p :: sput r a st
theorem sget_cons {p : Addr × Int × β} {l : List (Addr × Int × β)} {a : Addr} : sget (p :: l) a = if p.1 = a then some p.2 else sget l a := by
  obtain ⟨b, x⟩ := p
  unfold sget
  rw [List.lookup_cons]
  by_cases e : b = a
  · subst e; rw [if_pos rfl]; simp
  · rw [if_neg e]
    have : (a == b) = false := beq_eq_false_iff_ne.mpr (Ne.symm e)
    rw [this]
theorem sget_sput {a b : Addr} {st : Int × β} : ∀ {l : List (Addr × Int × β)} {s0 : Int × β}, sget l a = some s0 → sget (sput l a st) b = if b = a then some st else sget l b
  | [], _, h => by cases h
  | p :: l, s0, h => by
    rw [sget_cons] at h
    unfold sput
    by_cases e : p.1 = a
    · rw [if_pos e, sget_cons, sget_cons, e]
      by_cases q : a = b
      · rw [if_pos q, if_pos q.symm]
      · rw [if_neg q, if_neg (Ne.symm q), if_neg q]
    · rw [if_neg e] at h
      rw [if_neg e, sget_cons, sget_cons, sget_sput h]
      by_cases q : p.1 = b
      · rw [if_pos q, if_neg (fun z => e (q.trans z)), if_pos q]
      · rw [if_neg q, if_neg q]
theorem st_split {C : Addr} {f2 : Str} {B : β → VA} {a : Addr} {F : Hp} : ∀ {l : List (Addr × Int × β)} {st : Int × β} {h : HL}, sget l a = some st → (resSt C f2 B l).p F h →
    ∃ g1 g2, h.Perm (g1 ++ g2) ∧ (resOb C f2 B a st).p F g1 ∧ ∀ F' st' g1', Same F F' → (resOb C f2 B a st').p F' g1' → ∃ h', h'.Perm (g1' ++ g2) ∧ (resSt C f2 B (sput l a st')).p F' h'
  | [], _, _, e, _ => by cases e
  | p :: l, st, h, e, q => by
    obtain ⟨k1, k2, eh, q1, q2⟩ := (show stP C f2 B (p :: l) F h from q)
    rw [sget_cons] at e
    subst eh
    by_cases c : p.1 = a
    · rw [if_pos c] at e
      cases e
      subst c
      refine ⟨k1, k2, .refl _, q1, fun F' st' g1' e1 q => ⟨g1' ++ k2, .refl _, ?_⟩⟩
      unfold sput
      rw [if_pos rfl]
      exact ⟨g1', k2, rfl, q, stP.mono e1 q2⟩
    · rw [if_neg c] at e
      obtain ⟨g1, g2, pm, o, back⟩ := st_split e q2
      refine ⟨g1, g2 ++ k1, ?_, o, fun F' st' g1' e1 q => ?_⟩
      · rw [← List.append_assoc]; exact List.perm_append_comm.trans (pm.append_right k1)
      · obtain ⟨h', p', q'⟩ := back F' st' g1' e1 q
        refine ⟨k1 ++ h', ?_, ?_⟩
        · rw [← List.append_assoc]; exact List.perm_append_comm.trans (p'.append_right k1)
        · unfold sput
          rw [if_neg c]
          exact ⟨k1, h', rfl, (resOb C f2 B p.1 p.2).mono e1 q1, q'⟩
theorem st_keys {C : Addr} {f2 : Str} {B : β → VA} {F : Hp} : ∀ {l : List (Addr × Int × β)} {h : HL}, (resSt C f2 B l).p F h → ∀ p ∈ l, p.1 ∈ h.map (·.1)
  | [], _, _, p, hp => by cases hp
  | q :: l, h, z, p, hp => by
    obtain ⟨k1, k2, eh, q1, q2⟩ := (show stP C f2 B (q :: l) F h from z)
    subst eh
    rw [List.map_append]
    rcases List.mem_cons.mp hp with rfl | hp
    · obtain ⟨dx, v2, h2, e, _⟩ := q1
      rw [e]
      exact List.mem_append_left _ List.mem_cons_self
    · exact List.mem_append_right _ (st_keys q2 p hp)
end
section
variable {P : Program} {w : World} {K : PySem.W.Frag} {mg : Str → Option Value} {base : Heap} {N : List Str} {sc : Scope} {fn : Str → Bool} {k : Nat}
variable {M : Fm P w K mg base N sc fn k}
variable {S S1 S2 : Type} {O : S → Res} {Γ Δ : Asrt} {s : S} {α β γ ρ : Type} {ra : RP α} {rb : RP β} {rc : RP γ} {A : ρ → VA}
/-- a store is opened -/
theorem xs_openSt {O2 : Unit → S2 → Res} {n : S2} (h0 : ∀ F, (O2 () n).p F []) {HI F0 : Hp} {sts : List Stmt} {Pk : Prop} {D D1 : Ends} (hD : Eds D1 D)
    (hk : XSs M (resP O (O2 ())) HI F0 Γ (s, n) sts D1 Pk) : XSs M O HI F0 Γ s sts D Pk := by
  intro σ F H e0 st hp
  obtain ⟨h1, h2, sa, so, ok⟩ := st
  exact rdSs_mono (hk σ F H e0 ⟨h1, h2, sa, ⟨h2, [], by rw [List.append_nil], so, h0 F⟩, ok⟩ hp) hD.nx hD.rt hD.bk hD.ct
theorem xs_openStF {S1 : Type} {O : S1 → Res} {s : S1} {O2 : Unit → S2 → Res} (n : S2) (h0 : ∀ F, (O2 () n).p F []) {HI F0 : Hp} {sts : List Stmt} {R : ρ → S1 → Prop} {Pk : Prop}
    (hk : XSs M (resP O (O2 ())) HI F0 Γ (s, n) sts { nx := fun _ H' => rtJ (resP O (O2 ())) HI F0 A (fun y s => R y s.1) .non H', rt := rtJ (resP O (O2 ())) HI F0 A (fun y s => R y s.1), bk := fun _ _ => False, ct := fun _ _ => False } Pk) :
    XSs M O HI F0 Γ s sts { nx := fun _ H' => rtJ O HI F0 A R .non H', rt := rtJ O HI F0 A R, bk := fun _ _ => False, ct := fun _ _ => False } Pk :=
  xs_openSt (M := M) h0 ⟨eq_fx, eq_rt, ed_no, ed_no⟩ hk
section
variable {C : Addr} {f2 m : Str} {B : β → VA} {o e : Expr} {es : List Expr} {apos pos p1 : Pos} {j : Nat} {ps : List Str} {αs : Type} {get : S → List (Addr × Int × β)} {put : S → List (Addr × Int × β) → S}
/-- a new instance is put into the store -/
theorem xe_toSt {W : (Int × β → S → Prop) → Prop} (foc : Foc O (resSt C f2 B) get put) (he : XE M O Γ s e (fun st => okOb C f2 B st) W) : XE M O Γ s e (fz pA) (fun k => W fun st s1 => ∀ a, (∀ p ∈ get s1, p.1 ≠ a) → k a (put s1 ((a, st) :: get s1))) := by
  intro HI D Q σ F H st hq hc
  refine he HI _ Q σ F H st (fun x s1 v F1 H1 c e1 sv => ?_) hc
  obtain ⟨hv, h1, h2, ⟨a, ev, ob⟩, sa, so, ok⟩ := sv
  subst ev
  obtain ⟨g1, g2, pm, o1, back⟩ := foc.split so
  obtain ⟨h', p', q'⟩ := back F1 ((a, x) :: get s1) (hv ++ g1) (Same.refl _) (show stP C f2 B ((a, x) :: get s1) F1 (hv ++ g1) from ⟨hv, g1, rfl, ob, o1⟩)
  refine hq a _ (.ref a) F1 H1 (c a fun p hp e => ?_) e1 ⟨[], h1, h', ⟨rfl, rfl⟩, sa, q', ok.perm ?_⟩
  · have nd := ok.nd
    rw [List.map_append] at nd
    have ha : a ∈ hv.map (·.1) := by
      obtain ⟨dx, v2, l2, eh, _⟩ := ob
      rw [eh]; exact List.mem_cons_self
    have hp2 : p.1 ∈ (h1 ++ h2).map (·.1) := by
      rw [List.map_append]
      refine List.mem_append_right _ ?_
      exact ((pm.map (·.1)).mem_iff).mpr (by rw [List.map_append]; exact List.mem_append_left _ (st_keys o1 p hp))
    exact (List.nodup_append.mp nd).2.2 a ha p.1 hp2 e.symm
  · rw [List.nil_append]
    refine List.Perm.trans ?_ (List.Perm.append_left h1 p'.symm)
    refine (List.Perm.append_left hv (List.Perm.append_left h1 pm)).trans ?_
    rw [List.append_assoc, ← List.append_assoc hv h1, ← List.append_assoc h1 hv]
    exact List.perm_append_comm.append_right _
/-- what the store holds of an instance -/
theorem Stt.inst {σ : L2.St} {HI F H : Hp} {a : Addr} {x : Int × β} (foc : Foc O (resSt C f2 B) get put) (st : Stt O HI Γ s σ F H) (hl : sget (get s) a = some x) : ∃ dx v2, H a = some (.ins C dx (oFs f2 x.1 v2)) := by
  obtain ⟨h1, h2, sa, so, ok⟩ := st
  obtain ⟨g1, g2, pm, o1, _⟩ := foc.split so
  obtain ⟨k1, k2, pm2, ⟨dx, v2, l2, eh, _⟩, _⟩ := st_split hl o1
  refine ⟨dx, v2, (ok.own (a, .ins C dx (oFs f2 x.1 v2)) (List.mem_append_right _ (pm.mem_iff.mpr (List.mem_append_left _ (pm2.mem_iff.mpr (List.mem_append_left _ (by rw [eh]; exact List.mem_cons_self))))))).1⟩
/-- what is called may change the instance -/
theorem st_run {σ : L2.St} {HI F H : Hp} {a : Addr} {x : Int × β} {z : αs} {vs : List V} {PA : αs → List VA} {mm : αs → Int × β → (ρ → Int × β → Prop) → Prop} {Cw : ρ → S → Prop} {Q : VK} {E : XK} (foc : Foc O (resSt C f2 B) get put) (st : Stt O HI Γ s σ F H) (hl : sget (get s) a = some x) (al : AllV (PA z) vs F)
    (hq : ∀ y s' v F' H', Cw y s' → Same F F' → SttV O HI Γ s' σ F' H' (A y) v → Q v H') (hc : mm z x fun y x' => Cw y (put s (sput (get s) a x'))) : SpF Addr (fun ad z => fz pA ad :: PA z) (resOb C f2 B) A mm (.ref a :: vs) H Q E := by
  obtain ⟨h1, h2, sa, so, ok⟩ := st
  obtain ⟨g1, g2, pm, o1, back⟩ := foc.split so
  obtain ⟨k1, k2, pm2, ob, back2⟩ := st_split hl o1
  have okp : Ok F (k1 ++ (k2 ++ (g2 ++ h1))) HI H := ok.perm (by
    refine (List.perm_append_comm).trans ?_
    refine (pm.append_right h1).trans ?_
    rw [List.append_assoc]
    refine (pm2.append_right _).trans ?_
    rw [List.append_assoc])
  refine ⟨a, z, x, F, Sm.hide HI (k2 ++ (g2 ++ h1)), k1, ⟨⟨rfl, rfl⟩, al⟩, ob, okp.hide, _, fun y x' c v F' hv h2' H' e3 av o2 ok2 => ?_, hc⟩
  obtain ⟨l1, q1, r1⟩ := back2 F' x' h2' e3 o2
  obtain ⟨h', p', q'⟩ := back F' _ l1 e3 r1
  refine hq y _ v F' H' c e3 ⟨hv, h1, h', av, sa.mono e3, q', ?_⟩
  refine (okp.unhide ok2).perm ?_
  rw [List.append_assoc]
  refine List.Perm.append_left hv ?_
  rw [← List.append_assoc, ← List.append_assoc]
  refine List.Perm.trans ?_ List.perm_append_comm
  refine List.Perm.append_right h1 ?_
  exact ((q1.symm).append_right g2).trans p'.symm
/-- o.m(..), o in the store -/
theorem xe_methS {PA : αs → List VA} {A' : αs → List VA} {mm : αs → Int × β → (ρ → Int × β → Prop) → Prop} {wo : (Addr → S → Prop) → Prop} {wa : S → (αs → S → Prop) → Prop} (foc : Foc O (resSt C f2 B) get put) (T : ClsO K C f2)
    (h : HasM P w K mg base C m j ps (SpF Addr (fun ad z => fz pA ad :: PA z) (resOb C f2 B) A mm)) (ho : XE M O Γ s o (fz pA) wo) (ha : ∀ s', XA M O Γ s' (e :: es) A' (wa s')) (hA : ∀ z, A' z = PA z := by intro _; rfl) (hj : j ≤ k := by first | decide | omega) (hm1 : (m == ("bits" : Str)) = false := by decide) (hm2 : (m == f2) = false := by decide)
    (ht : MethT o m apos (e :: es) pos := by intro _; exact ⟨_, rfl⟩) (hs : NoStar e := by intro _ _; rfl) (hpl : ∀ env, (backTo pos (starEach es env)).any (·.1) = false := by intro _; rfl) :
    XE M O Γ s (.Call (.Attribute o m apos) (e :: es) [] pos) A (fun k => wo fun a s1 => ∃ x, sget (get s1) a = some x ∧ wa s1 fun z s2 => ∃ x', sget (get s2) a = some x' ∧ mm z x' fun y x2 => k y (put s2 (sput (get s2) a x2))) := by
  intro HI D Q σ F H st hq hc
  obtain ⟨f, fd, e1, e3, e4⟩ := h.ex
  refine ⟨_, fun q => by
    obtain ⟨pl, q1⟩ := ht (M.X q).env
    exact pe_meth (pl := pl) (sp := SpF Addr (fun ad z => fz pA ad :: PA z) (resOb C f2 B) A mm) (dvs := []) (ds := []) (E := E0) (rdE_ok (M := M) q) (by rw [M.kf]; exact T.cl) (by rw [M.kf]; exact e1) (by rw [M.prog, M.wd, M.kf, M.mgl, M.bas]; exact e4) ((M.room q).mono hj) (by rw [M.kf]; exact e3) .nil pass0 (rdA_ok q) (hs _ _) (hpl _) q1, ?_⟩
  refine ho HI _ _ σ F H st (fun a s1 v F1 H1 c1 ex1 sv => ?_) hc
  obtain ⟨ev, st1⟩ := sv.fz
  have ev : v = .ref a := ev
  subst ev
  obtain ⟨x, hl, c1⟩ := c1
  obtain ⟨dx, v2, hA1⟩ := st1.inst foc hl
  refine ⟨a, dx, _, rfl, hA1, oFs_no hm1 hm2, ?_⟩
  refine ha s1 HI _ _ σ F1 H1 st1 (fun z s2 vs F2 H2 c2 ex2 al st2 => ?_) c1
  rw [hA] at al
  obtain ⟨x', hl2, c2⟩ := c2
  rw [List.append_nil]
  exact st_run (Cw := D) foc st2 hl2 al (fun y s' v F' H' c e sv => hq y s' v F' H' c (ex1.trans (ex2.trans e)) sv) c2
theorem xe_methS0 {mm : Unit → Int × β → (ρ → Int × β → Prop) → Prop} {wo : (Addr → S → Prop) → Prop} (foc : Foc O (resSt C f2 B) get put) (T : ClsO K C f2)
    (h : HasM P w K mg base C m j ps (SpF Addr (fun ad (_ : Unit) => [fz pA ad]) (resOb C f2 B) A mm)) (ho : XE M O Γ s o (fz pA) wo) (hj : j ≤ k := by first | decide | omega) (hm1 : (m == ("bits" : Str)) = false := by decide) (hm2 : (m == f2) = false := by decide)
    (ht : MethT o m apos [] pos := by intro _; exact ⟨_, rfl⟩) :
    XE M O Γ s (.Call (.Attribute o m apos) [] [] pos) A (fun k => wo fun a s1 => ∃ x, sget (get s1) a = some x ∧ mm () x fun y x2 => k y (put s1 (sput (get s1) a x2))) := by
  intro HI D Q σ F H st hq hc
  obtain ⟨f, fd, e1, e3, e4⟩ := h.ex
  refine ⟨_, fun q => by
    obtain ⟨pl, q1⟩ := ht (M.X q).env
    exact pe_meth0 (pl := pl) (sp := SpF Addr (fun ad (_ : Unit) => [fz pA ad]) (resOb C f2 B) A mm) (dvs := []) (ds := []) (E := E0) (rdE_ok (M := M) q) (by rw [M.kf]; exact T.cl) (by rw [M.kf]; exact e1) (by rw [M.prog, M.wd, M.kf, M.mgl, M.bas]; exact e4) ((M.room q).mono hj) (by rw [M.kf]; exact e3) .nil pass0 q1, ?_⟩
  refine ho HI _ _ σ F H st (fun a s1 v F1 H1 c1 ex1 sv => ?_) hc
  obtain ⟨ev, st1⟩ := sv.fz
  have ev : v = .ref a := ev
  subst ev
  obtain ⟨x, hl, c1⟩ := c1
  obtain ⟨dx, v2, hA1⟩ := st1.inst foc hl
  refine ⟨a, dx, _, rfl, hA1, oFs_no hm1 hm2, ?_⟩
  exact st_run (E := E0) (vs := []) (PA := fun _ : Unit => []) (z := ()) (Cw := D) foc st1 hl (by trivial) (fun y s' v F' H' c e sv => hq y s' v F' H' c (ex1.trans e) sv) c1
/-- o.m(), o in the store, only looked at -/
theorem xe_methSr0 {rz : RP ρ} {mm : (Int × β) × Unit → Unit → (ρ → Unit → Prop) → Prop} {wo : (Addr → S → Prop) → Prop} (foc : Foc O (resSt C f2 B) get put) (T : ClsO K C f2) (fr : FrzR B rb) (tu : TupR rz)
    (h : HasM P w K mg base C m j ps (SpF Unit (fun _ (x : (Int × β) × Unit) => [fz (pOb C f2 rb) x.1]) (fun _ _ => emp) (fz rz) mm)) (ho : XE M O Γ s o (fz pA) wo) (hj : j ≤ k := by first | decide | omega) (hm1 : (m == ("bits" : Str)) = false := by decide) (hm2 : (m == f2) = false := by decide)
    (ht : MethT o m apos [] pos := by intro _; exact ⟨_, rfl⟩) :
    XE M O Γ s (.Call (.Attribute o m apos) [] [] pos) (fz rz) (fun k => wo fun a s1 => ∃ x, sget (get s1) a = some x ∧ mm (x, ()) () fun y _ => k y s1) := by
  intro HI D Q σ F H st hq hc
  obtain ⟨f, fd, e1, e3, e4⟩ := h.ex
  refine ⟨_, fun q => by
    obtain ⟨pl, q1⟩ := ht (M.X q).env
    exact pe_meth0 (pl := pl) (sp := SpF Unit (fun _ (x : (Int × β) × Unit) => [fz (pOb C f2 rb) x.1]) (fun _ _ => emp) (fz rz) mm) (dvs := []) (ds := []) (E := E0) (rdE_ok (M := M) q) (by rw [M.kf]; exact T.cl) (by rw [M.kf]; exact e1) (by rw [M.prog, M.wd, M.kf, M.mgl, M.bas]; exact e4) ((M.room q).mono hj) (by rw [M.kf]; exact e3) .nil pass0 q1, ?_⟩
  refine ho HI _ _ σ F H st (fun a s1 v F1 H1 c1 ex1 sv => ?_) hc
  obtain ⟨ev, st1⟩ := sv.fz
  have ev : v = .ref a := ev
  subst ev
  obtain ⟨x, hl, c1⟩ := c1
  obtain ⟨dx0, v0, hA1⟩ := st1.inst foc hl
  refine ⟨a, dx0, _, rfl, hA1, oFs_no hm1 hm2, ?_⟩
  have st1' := st1
  obtain ⟨h1, h2, sa, so, ok⟩ := st1
  obtain ⟨g1, g2, pm, o1, back⟩ := foc.split so
  obtain ⟨k1, k2, pm2, ob, _⟩ := st_split hl o1
  have okp : Ok F1 (k1 ++ (k2 ++ (g2 ++ h1))) HI H1 := ok.perm (by
    refine (List.perm_append_comm).trans ?_
    refine (pm.append_right h1).trans ?_
    rw [List.append_assoc]
    refine (pm2.append_right _).trans ?_
    rw [List.append_assoc])
  obtain ⟨kk, eA, mA⟩ := frA_ok okp.hide
  have rd : (pOb C f2 rb).r x (.ref a) (frA F1 k1) := frz_ob fr x (.ref a) F1 k1 _ ⟨a, rfl, ob⟩ eA mA
  refine ⟨(), (x, ()), (), frA F1 k1, Sm.hide HI (k2 ++ (g2 ++ h1)), [], ⟨⟨rfl, rd⟩, trivial⟩, rfl, kk, _, fun y s5 c v F' hv h2' H' e3' av o2 ok2 => ?_, c1⟩
  obtain ⟨ehv, rv⟩ := av
  have o2 : h2' = [] := o2
  subst ehv o2
  have bk := okp.back e3' ok2
  have st2 : Stt O HI Γ s1 σ F1 H' := ⟨h1, h2, sa, so, bk.perm (by
    refine List.Perm.symm ?_
    refine (List.perm_append_comm).trans ?_
    refine (pm.append_right h1).trans ?_
    rw [List.append_assoc]
    refine (pm2.append_right _).trans ?_
    rw [List.append_assoc])⟩
  obtain ⟨bs, b1, b2⟩ := tu _ _ _ rv
  obtain ⟨F3, e4', st3, m3⟩ := st2.grow (bs := bs) fun b hb => (b1 b hb).imp fun o q => ⟨ok2.fz _ _ q.1, q.2⟩
  refine hq y s1 v F3 H' c (ex1.trans e4') (st3.val (b2 F3 fun b hb => ?_))
  obtain ⟨o, q, _⟩ := b1 b hb
  rw [m3 b hb, q]; exact ok2.fz _ _ q
end
end
end Sm

set_option Elab.async false
set_option linter.all false
set_option maxRecDepth 100000
set_option maxHeartbeats 4000000
/-! lists of two unlike things; xs.pop(i) alone; a, xs[i] = two -/
namespace Sm
open PySem PySem.Spec PyProof.Rows L2
theorem hz_ob {β : Type} {C : Addr} {f2 : Str} {B : β → VA} {r : RP β} {a : Addr} (f : FrzR B r) : ∀ st F h F', (resOb C f2 B a st).p F h → Same F F' → (∀ p ∈ h, F' p.1 = some p.2) → (pOb C f2 r).r st (.ref a) F' :=
  fun st F h F' q e m => frz_ob f st (.ref a) F h F' ⟨a, rfl, q⟩ e m
/-- a list of two things of two kinds -/
def pX2 (K : PySem.W.Frag) {α β : Type} (r : RP α) (q : RP β) : RP (α × β) := ⟨fun x v F => ∃ a u1 u2, v = .ref a ∧ SqL K F a [u1, u2] ∧ r.r x.1 u1 F ∧ q.r x.2 u2 F,
  fun e ⟨a, u1, u2, h1, h2, h3, h4⟩ => ⟨a, u1, u2, h1, SqL.mono e h2, r.mono e h3, q.mono e h4⟩⟩
/-- .. of three -/
def pX3 (K : PySem.W.Frag) {α β γ : Type} (r : RP α) (q : RP β) (t : RP γ) : RP (α × β × γ) := ⟨fun x v F => ∃ a u1 u2 u3, v = .ref a ∧ SqL K F a [u1, u2, u3] ∧ r.r x.1 u1 F ∧ q.r x.2.1 u2 F ∧ t.r x.2.2 u3 F,
  fun e ⟨a, u1, u2, u3, h1, h2, h3, h4, h5⟩ => ⟨a, u1, u2, u3, h1, SqL.mono e h2, r.mono e h3, q.mono e h4, t.mono e h5⟩⟩
section
variable {P : Program} {w : World} {K : PySem.W.Frag} {mg : Str → Option Value} {base : Heap} {N : List Str} {sc : Scope} {fn : Str → Bool} {k : Nat}
variable {M : Fm P w K mg base N sc fn k}
variable {S : Type} {O : S → Res} {Γ Δ : Asrt} {s : S} {α β γ ρ : Type} {ra : RP α} {rb : RP β} {rc : RP γ} {A : ρ → VA}
theorem xe_lstX2 {a b : Expr} {pos : Pos} {wa : (α → S → Prop) → Prop} {wb : S → (β → S → Prop) → Prop} (ha : XE M O Γ s a (fz ra) wa) (hb : ∀ s', XE M O Γ s' b (fz rb) (wb s')) (na : NoStar a := by intro _ _; rfl) (nb : NoStar b := by intro _ _; rfl) :
    XE M O Γ s (.List [a, b] pos) (fz (pX2 K ra rb)) (fun k => wa fun x s1 => wb s1 fun y s2 => k (x, y) s2) := by
  intro HI C Q σ F H st hq hc
  refine ⟨_, fun i => pe_lst (pa_cons (rdE_ok i) (pa_cons (rdE_ok i) pa_nil (nb _ _)) (na _ _)), ?_⟩
  refine two ha hb st (R := fun u v H2 => _) (fun x y s' u v F' H' c e r1 r2 st' => ?_) hc
  refine ⟨by show 2 ≤ sizeLine; decide, fun p hp => ?_⟩
  obtain ⟨e2, st2⟩ := st'.newF (o := .lst [u, v]) hp
  exact hq _ s' _ _ _ c (e.trans e2) (st2.val ⟨p, u, v, rfl, .inl (.inl upd_same), ra.mono e2 r1, rb.mono e2 r2⟩)
theorem xe_lstX3 {a b c : Expr} {pos : Pos} {wa : (α → S → Prop) → Prop} {wb : S → (β → S → Prop) → Prop} {wc : S → (γ → S → Prop) → Prop} (ha : XE M O Γ s a (fz ra) wa) (hb : ∀ s', XE M O Γ s' b (fz rb) (wb s')) (hc : ∀ s', XE M O Γ s' c (fz rc) (wc s')) (na : NoStar a := by intro _ _; rfl) (nb : NoStar b := by intro _ _; rfl) (nc : NoStar c := by intro _ _; rfl) :
    XE M O Γ s (.List [a, b, c] pos) (fz (pX3 K ra rb rc)) (fun k => wa fun x s1 => wb s1 fun y s2 => wc s2 fun z s3 => k (x, y, z) s3) := by
  intro HI C Q σ F H st hq hcc
  refine ⟨_, fun i => pe_lst (pa_cons (rdE_ok i) (pa_cons (rdE_ok i) (pa_cons (rdE_ok i) pa_nil (nc _ _)) (nb _ _)) (na _ _)), ?_⟩
  refine two ha hb st (R := fun u v H2 => _) (fun x y s' u v F' H' c1 e r1 r2 st' => ?_) hcc
  refine hc s' HI _ _ σ F' H' st' (fun z s3 t F3 H3 c3 e3 sv3 => ?_) c1
  obtain ⟨r3, st3⟩ := sv3.fz
  refine ⟨by show 3 ≤ sizeLine; decide, fun p hp => ?_⟩
  obtain ⟨e2, st2⟩ := st3.newF (o := .lst [u, v, t]) hp
  exact hq _ s3 _ _ _ c3 (e.trans (e3.trans e2)) (st2.val ⟨p, u, v, t, rfl, .inl (.inl upd_same), ra.mono (e3.trans e2) r1, rb.mono (e3.trans e2) r2, rc.mono e2 r3⟩)
/-- x.pop(e), alone -/
theorem xs_popX {HI F0 : Hp} {D : Ends} {e1 : Expr} {x : Str} {p1 ap cp pos : Pos} {rest : List Stmt} {xs : List α} {w1 : (Int → S → Prop) → Prop} {Pk : Nat → S → Prop} (i : Nat) (hΓ : Γ[i]? = some (some (ol ra xs))) (he1 : XE M O Γ s e1 (fz pI) w1)
    (hk : ∀ m s', XSs M O HI F0 (Γ.set i (some (ol ra (xs.eraseIdx m)))) s' rest D (Pk m s')) (hN : N[i]? = some x := by rfl) (hv : Vis sc x := by first | exact Or.inl rfl | exact Or.inr (Or.inl rfl) | exact Or.inr (Or.inr rfl)) (hd : (x == ("__debug__" : Str)) = false := by decide) (hcd : (x == ("__classdict__" : Str)) = false := by decide) (hns : NoStar e1 := by intro _ _; rfl)
    (hfew : ∀ env, ((backTo cp (starEach [e1] env)).all (fun x => !x.1) && (backToKw cp (keywordEach [] env)).all (fun x => x.1.isSome) && decide ([e1].length + ([] : List Keyword).length + (if ([] : List Keyword).isEmpty then 0 else 1) < 30)) = true := by intro _; rfl)
    (hline : (ap.endLine == cp.line) = true := by rfl) (hs : ∀ j, swapsWith (.Call (.Attribute (.Name x p1) "pop" ap) [e1] [] cp) none pos.line (M.X j).env = pure false := by intro _; rfl) :
    XSs M O HI F0 Γ s (.Expr (.Call (.Attribute (.Name x p1) "pop" ap) [e1] [] cp) pos :: rest) D (w1 fun q s1 => (-(2 ^ 63) ≤ q ∧ q < 2 ^ 63) ∧ ∃ m, ixN xs.length q = some m ∧ Pk m s1) := by
  intro σ F H e0 st hp
  refine ⟨_, fun j => pss_cons (ps_expr (by
    have h := pe_bm (X := M.X j) (cpos := cp) PySem.F.plainAttrs_list PySem.F.slot_list_pop PySem.F.type_list_pop mt_popAt (pe_nameO (pos := p1) hN hv hd hcd j) (pa_cons (rdE_ok (M := M) j) pa_nil (hns _ _)) rfl (hfew _) hline (hns _ _) rfl
    rw [M.kf j] at h; exact h) (hs j)) (rdSs_ok j), ?_⟩
  obtain ⟨a, vs, ea, eh, al, _⟩ := st.own hΓ
  refine ⟨.ref a, ea, .inl ⟨rfl, vs, SqL.of eh⟩, ?_⟩
  refine he1 HI _ _ σ F H st (fun q s1 iv F1 H1 c1 ex1 sv1 => ?_) hp
  obtain ⟨ri, st1⟩ := sv1.fz
  obtain ⟨⟨q1, q2⟩, m, hm, c⟩ := c1
  obtain ⟨a', vs', ea', eh', al', up⟩ := st1.own hΓ
  rw [ea] at ea'; cases ea'
  have hm' : ixN vs'.length q = some m := by rw [← al'.length]; exact hm
  have hlt := (ixN_seq hm').2.1
  obtain ⟨y, hy⟩ : ∃ y, xs[m]? = some y := ⟨xs[m]'(by rw [al'.length]; exact hlt), List.getElem?_eq_getElem _⟩
  obtain ⟨u, hu, ru⟩ := al'.get hy
  refine ⟨a, vs', q, m, u, rfl, by rw [show iv = V.int q from ri], eh', q1, q2, (ixN_seq hm').1, hu, ?_⟩
  exact hk m s1 σ F1 _ (e0.trans ex1) (up (xs.eraseIdx m) (vs'.eraseIdx m) (al'.eraseIdx m)) c
/-- t, x[e2] = two; x owned -/
theorem xs_asgNS {HI F0 : Hp} {D : Ends} {t1 i2 e : Expr} {x : Str} {p3 p4 pt pos : Pos} {kt : Nat} {rest : List Stmt} {xs : List β} {L1 : List Nat} {W : (α × β → S → Prop) → Prop} {w2 : α → S → (Int → S → Prop) → Prop} {Pk : Nat → α × β → S → Prop} (i1 i : Nat) (hne : i1 ≠ i) (hΓ : Γ[i]? = some (some (ol rb xs))) (he : XE M O Γ s e (fz (pX2 K ra rb)) W)
    (h1 : XGt M t1 ra (fun y Γ => Γ.set i1 (some (fz ra y))) L1) (h2 : ∀ z s', XE M O (Γ.set i1 (some (fz ra z))) s' i2 (fz pI) (w2 z s'))
    (hk : ∀ n y s', XSs M O HI F0 ((Γ.set i1 (some (fz ra y.1))).set i (some (ol rb (xs.set n y.2)))) s' rest D (Pk n y s')) (hl : Γ.length = N.length := by rfl) (hN : N[i]? = some x := by rfl) (hv : Vis sc x := by first | exact Or.inl rfl | exact Or.inr (Or.inl rfl) | exact Or.inr (Or.inr rfl))
    (hd : (x == ("__debug__" : Str)) = false := by decide) (hcd : (x == ("__classdict__" : Str)) = false := by decide)
    (hsub2 : ∀ env v, assign (.Subscript (.Name x p3) i2 p4) env v = (do
      let ov ← holding [v] (eval (.Name x p3) env)
      let iv ← holding [v, ov] (eval i2 env)
      standAt p4
      holding [v, ov, iv] (setItem ov iv v)
      release [v, ov, iv] []) := by intro _ _; rfl)
    (hs : ∀ j, swapsWithSole [.Tuple [t1, .Subscript (.Name x p3) i2 p4] kt pt] e pos.line (M.X j).env = pure false := by intro _; rfl) (hw : ∀ j, swappedStores [.Tuple [t1, .Subscript (.Name x p3) i2 p4] kt pt] e (M.X j).env = pure none := by intro _; first | rfl | exact sw_subs)
    (hx1 : ∀ env, (assignEach [.Tuple [t1, .Subscript (.Name x p3) i2 p4] kt pt] env).map (·.2) = [assign (.Tuple [t1, .Subscript (.Name x p3) i2 p4] kt pt) env] := by intro _; rfl)
    (hx2 : ∀ env, (assignEach [t1, .Subscript (.Name x p3) i2 p4] env).map (·.2) = assign t1 env :: (assignEach [.Subscript (.Name x p3) i2 p4] env).map (·.2) := by intro _; rfl)
    (hx3 : ∀ env, (assignEach [.Subscript (.Name x p3) i2 p4] env).map (·.2) = assign (.Subscript (.Name x p3) i2 p4) env :: (assignEach [] env).map (·.2) := by intro _; rfl)
    (hx4 : ∀ env, (assignEach [t1, .Subscript (.Name x p3) i2 p4] env).length = 2 := by intro _; rfl) (hx5 : ∀ env, (assignEach [t1, .Subscript (.Name x p3) i2 p4] env).findIdx? (·.1) = none := by intro _; rfl) :
    XSs M O HI F0 Γ s (.Assign [.Tuple [t1, .Subscript (.Name x p3) i2 p4] kt pt] e pos :: rest) D (W fun y s1 => w2 y.1 s1 fun j s2 => ∃ n, ixN xs.length j = some n ∧ Pk n y s2) := by
  intro σ F H e0 st hp
  refine ⟨tSeq (tAsg (rdE M e) (gUnl K 2 (gCons (rdG M t1) (gCons (gSub (tVar i) (rdE M i2) rSetL) gNil)))) (rdSs M rest), fun j => pss_cons (ps_asg (rdE_ok j) (by
    have h := pg_unl (X := M.X j) (pos := pt) (k := kt) (M.calm j) (pgs_cons (rdG_ok (M := M) j) (pgs_cons (pg_sub (pe_nameO (M := M) (pos := p3) hN hv hd hcd j) (rdE_ok j) set_list (hsub2 _)) pgs_nil (hx3 _)) (hx2 _)) (hx4 _) (hx5 _)
    rw [M.kf j] at h; exact h) (hs j) (hw j) (hx1 _)) (rdSs_ok j), ?_⟩
  refine he HI _ _ σ F H st (fun y s1 v F1 H1 c1 ex1 sv1 => ?_) hp
  obtain ⟨⟨at1, u1, u2, ev, hq, r1, r2⟩, st1⟩ := sv1.fz
  subst ev
  refine ⟨at1, [u1, u2], rfl, SqL.mono st1.ok hq, rfl, u1, [u2], rfl, ?_⟩
  refine h1.run O HI Γ s1 σ F1 H1 y.1 u1 _ hl st1 r1 fun σ1 l1 o1 st2 => ⟨u2, [], rfl, ?_⟩
  have hΓ2 : (Γ.set i1 (some (fz ra y.1)))[i]? = some (some (ol rb xs)) := by rw [List.getElem?_set_ne hne]; exact hΓ
  obtain ⟨a, vs, ea, eh, al, _⟩ := st2.own hΓ2
  refine ⟨.ref a, ea, ?_⟩
  refine h2 y.1 s1 HI _ _ σ1 F1 H1 st2 (fun j s2 iv F2 H2 c2 ex2 sv2 => ?_) c1
  obtain ⟨ri, st3⟩ := sv2.fz
  obtain ⟨n, hn, c⟩ := c2
  obtain ⟨a', vs', ea', eh', al', up⟩ := st3.own hΓ2
  rw [ea] at ea'; cases ea'
  refine ⟨a, vs', j, n, rfl, ri, eh', by rw [← al'.length]; exact hn, rfl, ?_⟩
  exact hk n y s2 σ1 F2 _ (e0.trans (ex1.trans ex2)) (up (xs.set n y.2) (vs'.set n u2) (al'.set n (rb.mono ex2 r2))) c
/-- x[e], x owned -/
theorem xe_ixO {e : Expr} {x : Str} {p1 pos : Pos} {xs : List α} {we : (Int → S → Prop) → Prop} (i : Nat) (hΓ : Γ[i]? = some (some (ol ra xs))) (he : XE M O Γ s e (fz pI) we) (hs : PlainIx e := by intro _ _; rfl) (hN : N[i]? = some x := by rfl) (hv : Vis sc x := by first | exact Or.inl rfl | exact Or.inr (Or.inl rfl) | exact Or.inr (Or.inr rfl))
    (hd : (x == ("__debug__" : Str)) = false := by decide) (hcd : (x == ("__classdict__" : Str)) = false := by decide) :
    XE M O Γ s (.Subscript (.Name x p1) e pos) (fz ra) (fun k => we fun j s1 => ∃ y, atI xs j = some y ∧ k y s1) := by
  intro HI C Q σ F H st hq hc
  obtain ⟨a, vs, ea, eh, al, _⟩ := st.own hΓ
  refine ⟨tOp (rIxL K) (tVar i) (rdE M e), fun j => (by have h := pe_ix (X := M.X j) (pos := pos) ix_list (pe_nameO (M := M) (pos := p1) hN hv hd hcd j) (rdE_ok (M := M) j (e := e)) hs; rw [M.kf j] at h; exact h), .ref a, ea, ?_⟩
  refine he HI _ _ σ F H st (fun j s1 u F1 H1 c1 e1 sv1 => ?_) hc
  obtain ⟨ru, st1⟩ := sv1.fz
  obtain ⟨y, hy, c⟩ := c1
  obtain ⟨a', vs', ea', eh', al', _⟩ := st1.own hΓ
  rw [ea] at ea'; cases ea'
  obtain ⟨w', hw, rw'⟩ := al'.at hy
  exact ⟨a, vs', j, w', rfl, ru, SqL.of eh', hw, hq y s1 w' F1 H1 c e1 (st1.val rw')⟩
end
end Sm

set_option Elab.async false
set_option linter.all false
set_option maxRecDepth 100000
set_option maxHeartbeats 4000000
/-! dict(a list of pairs) -/
namespace Sm
open PySem PySem.Spec PyProof.Rows L2
theorem b_dict : bootBuiltins "dict" = some (.type "dict") := by decide +kernel
section
variable {P : Program} {w : World} {K : PySem.W.Frag} {mg : Str → Option Value} {base : Heap} {N : List Str} {sc : Scope} {fn : Str → Bool} {k : Nat}
variable {M : Fm P w K mg base N sc fn k}
variable {S : Type} {O : S → Res} {Γ Δ : Asrt} {s : S} {α β γ ρ κ : Type} [DecidableEq κ] {rk : RP κ} {rv : RP β} {ky : KeyR rk} {A : ρ → VA}
def rDictP (K : PySem.W.Frag) : List V → Hp → VK → Prop := fun xs H Q => ∃ (a : Addr) (ps : List Addr) (kvs : List (Key × V)), xs = [.ref a] ∧ SqL K H a (ps.map V.ref) ∧ Paired (fun p kv => SqT K H p [kV kv.1, kv.2]) ps kvs ∧
    ∀ p, H p = none → Q (.ref p) (upd H p (.dK (mergeK [] kvs)))
theorem pairs_all {F H : Hp} (e : Same F H) : ∀ {xs : List (κ × β)} {vs : List V}, All2 (fun x u => (pP K rk rv).r x u F) xs vs → ∃ (ps : List Addr) (kvs : List (Key × V)), vs = ps.map V.ref ∧ Paired (fun p kv => SqT K H p [kV kv.1, kv.2]) ps kvs ∧ AllD ky rv F xs kvs
  | [], [], _ => ⟨[], [], rfl, .nil, trivial⟩
  | x :: xs, v :: vs, ⟨⟨a, u1, u2, ev, hs, r1, r2⟩, h⟩ => by
    obtain ⟨ps, kvs, e1, e2, e3⟩ := pairs_all e h
    refine ⟨a :: ps, (ky.key x.1, u2) :: kvs, by rw [ev, e1]; rfl, .cons ?_ e2, ⟨rfl, r2, e3⟩⟩
    rw [ky.val r1] at hs
    exact SqT.mono e hs
theorem o_dictP : Op1 (fun u => rDictP K [u]) (pL K (pP K rk rv)) (od ky rv) (fun xs k => k (dmerge xs)) :=
  fun O HI Γ s σ F H xs u C Q st ⟨a, vs, e1, hs, al⟩ hq hc => by
    obtain ⟨ps, kvs, q1, q2, q3⟩ := pairs_all (ky := ky) st.ok al
    subst q1
    exact ⟨a, ps, kvs, by rw [e1], SqL.mono st.ok hs, q2, fun p hp => hq _ _ F _ hc (Same.refl _) (st.newV hp ⟨p, _, rfl, rfl, AllD.merge q3 (d0 := []) (kvs0 := []) trivial⟩)⟩
theorem xe_dictP {p pos : Pos} {e : Expr} {wa : (List (κ × β) → S → Prop) → Prop} (hm : mg "dict" = none) (ha : XE M O Γ s e (fz (pL K (pP K rk rv))) wa) (hg : GlN sc "dict" := by rfl) (hs : NoStar e := by intro _ _; rfl) :
    XE M O Γ s (.Call (.Name "dict" p) [e] [] pos) (od ky rv) (fun k => wa fun x s1 => k (dmerge x) s1) :=
  xe_ct1 b_dict (fun i => by have h := call_dictP (X := M.X i) (M.calm i); rw [M.kf i] at h; exact h) o_dictP hm hg ha (by decide) (by decide) hs
end
end Sm

set_option Elab.async false
set_option linter.all false
set_option maxRecDepth 100000
set_option maxHeartbeats 4000000
/-! texts split; f-strings; fields of instances that stand stored anew; methods of what stands in a field -/
namespace Sm
open PySem PySem.Spec PyProof.Rows L2
/-! ### x.split(sep) -/
def splitT (x y : Text) : List Text := (Txt.split ⟨x.toArray⟩ ⟨y.toArray⟩).map TL.tl
theorem splitT_len (x y : Text) : (splitT x y).length ≤ x.length + 2 := by
  unfold splitT
  rw [List.length_map]
  have := PyProof.Rows.split_le ⟨x.toArray⟩ ⟨y.toArray⟩
  have e : (⟨x.toArray⟩ : Str).length = x.length := by simp [Str.length]
  rw [e] at this
  exact this
theorem splitT_join (x y : Text) : joinT y (splitT x y) = x := by
  have h := congrArg TL.tl (StrLaws.join_split ⟨x.toArray⟩ ⟨y.toArray⟩)
  rw [TL.tl_join] at h
  exact h
theorem joinT_mem {S : Text} {c : Nat} : ∀ {ps : List Text} {p : Text}, p ∈ ps → c ∈ p → c ∈ joinT S ps
  | [q], p, h, hc => by
    rw [List.mem_singleton.mp h] at hc
    exact hc
  | q :: r :: ps, p, h, hc => by
    show c ∈ q ++ (S ++ joinT S (r :: ps))
    rcases List.mem_cons.mp h with e | h
    · rw [e] at hc; exact List.mem_append_left _ hc
    · exact List.mem_append_right _ (List.mem_append_right _ (joinT_mem h hc))
theorem splitT_ok {x y : Text} (h : okT x) : ∀ p ∈ splitT x y, okT p := fun p hp c hc => h c (by rw [← splitT_join x y]; exact joinT_mem hp hc)
/-- a joined text, split -/
theorem split_joined {c : Nat} {ps : List Text} (hc : c < 256) (hne : ps ≠ []) (hp : ∀ p ∈ ps, c ∉ p) : splitT (joinT [c] ps) [c] = ps := by
  have h := TL.split_join (y := ⟨#[c]⟩) (s := c) (S := []) rfl (by simpa using hc) (parts := ps.map fun (p : Text) => (⟨p.toArray⟩ : Str)) (by simpa using hne) (fun p h => by
    obtain ⟨q, hq, rfl⟩ := List.mem_map.mp h
    exact hp q hq)
  have e : (⟨(joinT [c] ps).toArray⟩ : Str) = Txt.join ⟨#[c]⟩ (ps.map fun (p : Text) => (⟨p.toArray⟩ : Str)) := by
    refine TL.ext_tl ?_
    rw [TL.join_eq, TL.tl_join, List.map_map]
    show joinT [c] ps = TL.joinL [c] (ps.map fun p => p)
    rw [List.map_id']; rfl
  unfold splitT
  rw [e]
  show (Txt.split (Txt.join ⟨#[c]⟩ _) ⟨#[c]⟩).map TL.tl = ps
  rw [h, List.map_map]
  show ps.map (fun p => p) = ps
  rw [List.map_id']
section
variable {P : Program} {w : World} {K : PySem.W.Frag} {mg : Str → Option Value} {base : Heap} {N : List Str} {sc : Scope} {fn : Str → Bool} {k : Nat}
variable {M : Fm P w K mg base N sc fn k}
variable {S S1 S2 : Type} {O : S → Res} {Γ Δ : Asrt} {s : S} {α β γ ρ : Type} {ra : RP α} {rb : RP β} {rc : RP γ} {A : ρ → VA}
theorem all_strs {F : Hp} : ∀ {ps : List Str}, (∀ p ∈ ps, okT (TL.tl p)) → All2 (fun x v => pT.r x v F) (ps.map TL.tl) (ps.map V.str)
  | [], _ => trivial
  | p :: ps, h => ⟨⟨by show V.str p = V.str ⟨(TL.tl p).toArray⟩; congr 1, h p List.mem_cons_self⟩, all_strs fun q hq => h q (List.mem_cons_of_mem _ hq)⟩
theorem xe_split {o e : Expr} {ap pos : Pos} {wa : (Text → S → Prop) → Prop} {wb : S → (Text → S → Prop) → Prop} (ha : XE M O Γ s o (fz pT) wa) (hb : ∀ s', XE M O Γ s' e (fz pT) (wb s')) (hs : NoStar e := by intro _ _; rfl) (hbase : ∀ env, attributeBase o "split" env (eval o env) = eval o env := by intro _; rfl) (hline : (ap.endLine == pos.line) = true := by rfl) :
    XE M O Γ s (.Call (.Attribute o "split" ap) [e] [] pos) (ol pT) (fun k => wa fun x s1 => wb s1 fun y s2 => y ≠ [] ∧ x.length + 2 ≤ sizeLine ∧ k (splitT x y) s2) :=
  xe_m1T (Wo := fun x y k => y ≠ [] ∧ x.length + 2 ≤ sizeLine ∧ k (splitT x y)) PySem.F.slot_str_split PySem.F.type_str_split (fun i => mt_split) (fun O HI Γ s σ F H x y u v C Q st rx ry hq hc => ⟨⟨x.toArray⟩, ⟨y.toArray⟩, rx.1, by rw [ry.1], by
      refine beq_eq_false_iff_ne.mpr ?_
      simpa [Str.length] using hc.1, by simpa [Str.length] using hc.2.1, fun p hp => hq _ _ F _ hc.2.2 (Same.refl _) (st.newV hp ⟨p, _, rfl, rfl, all_strs fun q hq2 => splitT_ok (x := x) (y := y) rx.2 _ (List.mem_map.mpr ⟨q, hq2, rfl⟩)⟩)⟩) ha hb hs hbase hline
/-! ### f'{i}', f'text{i}' -/
theorem xe_fmtI {e : Expr} {p pos : Pos} {we : (Int → S → Prop) → Prop} (he : XE M O Γ s e (fz pI) we) : XE M O Γ s (.JoinedStr [.FormattedValue e (-1) none p] pos) (fz pT) (fun k => we fun i s1 => i.natAbs.log2 < 1920 ∧ k (strI i) s1) := by
  intro HI C Q σ F H st hq hc
  refine ⟨_, fun i => pe_joined1 (pe_fmt (rdE_ok i)), he HI _ _ σ F H st (fun x s1 v F1 H1 c1 e1 sv1 => ?_) hc⟩
  obtain ⟨rv, st1⟩ := sv1.fz
  have rv : v = .int x := rv
  exact .inr ⟨x, rv, c1.1, hq _ s1 _ F1 H1 c1.2 e1 (st1.val ⟨congrArg V.str (TL.ext_tl (by rw [TL.tl_ofString]; rfl)), strI_ok x⟩)⟩
theorem xe_fmtTI {e : Expr} {x : Str} {j : Nat} {p0 p pos : Pos} {we : (Int → S → Prop) → Prop} (l : Text) (he : XE M O Γ s e (fz pI) we) (hsz : l.length ≤ sizeLine := by decide) (el : x.cps = l.toArray := by decide +kernel) (ok : okT l := by decide) :
    XE M O Γ s (.JoinedStr [.Constant (.str x) j p0, .FormattedValue e (-1) none p] pos) (fz pT) (fun k => we fun i s1 => (i.natAbs.log2 < 1920 ∧ l.length + (strI i).length ≤ sizeLine) ∧ k (l ++ strI i) s1) := by
  intro HI C Q σ F H st hq hc
  refine ⟨_, fun i => pe_joined (.cons pe_str (.cons (pe_fmt (rdE_ok i)) .nil)), ?_⟩
  have ex : x = ⟨l.toArray⟩ := by cases x; simpa using el
  have e1' : Str.empty ++ x = x := TL.ext_tl (by rw [TL.tl_append]; rfl)
  have tx : TL.tl x = l := by rw [ex]
  have e2' : ∀ i : Int, Str.empty ++ x ++ Str.ofString (toString i) = ⟨(l ++ strI i).toArray⟩ := fun i => TL.ext_tl (by
    rw [e1', TL.tl_append, tx, TL.tl_ofString]; rfl)
  have sl : ∀ a : Text, (⟨a.toArray⟩ : Str).length = a.length := fun a => by simp [Str.length]
  refine ⟨x, rfl, ?_, ?_⟩
  · rw [e1', ex, sl]; exact hsz
  refine he HI _ _ σ F H st (fun i s1 v F1 H1 c1 e1 sv1 => ?_) hc
  obtain ⟨rv, st1⟩ := sv1.fz
  have rv : v = .int i := rv
  refine .inr ⟨i, rv, c1.1.1, _, rfl, ?_, ?_⟩
  · show (Str.empty ++ x ++ Str.ofString (toString i)).length ≤ sizeLine
    rw [e2', sl, List.length_append]; exact c1.1.2
  · refine hq _ s1 _ F1 H1 c1.2 e1 (st1.val ⟨?_, ok.append (strI_ok i)⟩)
    show V.str (Str.empty ++ x ++ Str.ofString (toString i)) = _
    rw [e2']
end
end Sm

set_option Elab.async false
set_option linter.all false
set_option maxRecDepth 100000
set_option maxHeartbeats 4000000
/-! instances: their fields stored anew, methods of what stands in a field; t[e] of a triple -/
namespace Sm
open PySem PySem.Spec PyProof.Rows L2
section
variable {P : Program} {w : World} {K : PySem.W.Frag} {mg : Str → Option Value} {base : Heap} {N : List Str} {sc : Scope} {fn : Str → Bool} {k : Nat}
variable {M : Fm P w K mg base N sc fn k}
variable {S S1 S2 : Type} {O : S → Res} {Γ Δ : Asrt} {s : S} {α β γ ρ : Type} {ra : RP α} {rb : RP β} {rc : RP γ} {A : ρ → VA}
section
variable {C : Addr} {f2 m x : Str} {B : β → VA} {e : Expr} {rest : List Stmt} {a : Addr} {i : Nat} {pos ap cp p0 p1 p2 : Pos} {HI F0 : Hp} {D : Ends} {get : S → Int × β} {put : S → Int × β → S}
/-- self.bits = e -/
theorem xs_fsetb {we : (Int → S → Prop) → Prop} {Pk : S → Prop} (foc : Foc O (resOb C f2 B a) get put) (T : ClsO K C f2) (hΓ : Γ[i]? = some (some (fz pA a))) (he : XE M O Γ s e (fz pI) we) (hk : ∀ s', XSs M O HI F0 Γ s' rest D (Pk s'))
    (hN : N[i]? = some x := by rfl) (hv : Vis sc x := by first | exact Or.inl rfl | exact Or.inr (Or.inl rfl) | exact Or.inr (Or.inr rfl)) (hd : (x == ("__debug__" : Str)) = false := by decide) (hcd : (x == ("__classdict__" : Str)) = false := by decide)
    (hs : ∀ j, swapsWith e (some (.Attribute (.Name x p1) "bits" p2)) pos.line (M.X j).env = pure false := by intro _; rfl) :
    XSs M O HI F0 Γ s (.Assign [.Attribute (.Name x p1) "bits" p2] e pos :: rest) D (we fun b s1 => Pk (put s1 (b, (get s1).2))) := by
  intro σ F H e0 st hp
  refine ⟨tSeq (sFld K (tVar i) (rdE M e) "bits") (rdSs M rest), fun j => pss_cons (by have h := ps_fld (pos := pos) (pos' := p2) (pe_nameO (M := M) (pos := p1) hN hv hd hcd j) (rdE_ok (M := M) j) (hs j); rw [M.kf j] at h; exact h) (rdSs_ok j), ?_⟩
  refine he HI _ _ σ F H st (fun b s1 v F1 H1 c1 ex1 sv1 => ?_) hp
  obtain ⟨rv, st1⟩ := sv1.fz
  obtain ⟨u, eu, r⟩ := st1.slot hΓ
  have r : u = .ref a := r
  subst r
  refine ⟨.ref a, eu, ?_⟩
  obtain ⟨g1, g2, ⟨dx, v2, h2, eg, q⟩, ok, back⟩ := st1.res foc
  subst eg
  refine ⟨a, C, dx, _, rfl, (ok.own _ List.mem_cons_self).1, T.cl, T.n1, by show 2 < 1000; decide, ?_⟩
  have rv : v = .int b := rv
  subst rv
  rw [oFs_putb]
  exact hk _ σ F1 _ (e0.trans ex1) (back F1 _ (b, (get s1).2) ((a, .ins C dx (oFs f2 b v2)) :: h2) (Same.refl _) ⟨dx, v2, h2, rfl, q⟩ ok.set) c1
/-- self.f2 = e, e owned -/
theorem xs_fset2 {we : (β → S → Prop) → Prop} {Pk : S → Prop} (foc : Foc O (resOb C f2 B a) get put) (T : ClsO K C f2) (hΓ : Γ[i]? = some (some (fz pA a))) (he : XE M O Γ s e B we) (hk : ∀ s', XSs M O HI F0 Γ s' rest D (Pk s'))
    (hN : N[i]? = some x := by rfl) (hv : Vis sc x := by first | exact Or.inl rfl | exact Or.inr (Or.inl rfl) | exact Or.inr (Or.inr rfl)) (hd : (x == ("__debug__" : Str)) = false := by decide) (hcd : (x == ("__classdict__" : Str)) = false := by decide)
    (hs : ∀ j, swapsWith e (some (.Attribute (.Name x p1) f2 p2)) pos.line (M.X j).env = pure false := by intro _; rfl) :
    XSs M O HI F0 Γ s (.Assign [.Attribute (.Name x p1) f2 p2] e pos :: rest) D (we fun y s1 => Pk (put s1 ((get s1).1, y))) := by
  intro σ F H e0 st hp
  refine ⟨tSeq (sFld K (tVar i) (rdE M e) f2) (rdSs M rest), fun j => pss_cons (by have h := ps_fld (pos := pos) (pos' := p2) (pe_nameO (M := M) (pos := p1) hN hv hd hcd j) (rdE_ok (M := M) j) (hs j); rw [M.kf j] at h; exact h) (rdSs_ok j), ?_⟩
  refine he HI _ _ σ F H st (fun y s1 v F1 H1 c1 ex1 sv1 => ?_) hp
  obtain ⟨u, eu, r⟩ := sv1.drop.slot hΓ
  have r : u = .ref a := r
  subst r
  refine ⟨.ref a, eu, ?_⟩
  obtain ⟨hv', h1, h2, hb, sa, so, ok⟩ := sv1
  obtain ⟨g1, g2, pm, ⟨dx, v2, l2, eg, q⟩, back⟩ := foc.split so
  subst eg
  have ok1 : Ok F1 ((a, .ins C dx (oFs f2 (get s1).1 v2)) :: (hv' ++ (h1 ++ g2) ++ l2)) HI H1 := ok.perm (by
    refine (List.Perm.append_left hv' (List.Perm.append_left h1 pm)).trans ?_
    refine List.Perm.trans ?_ (List.perm_append_comm (l₁ := hv' ++ (h1 ++ g2) ++ l2) (l₂ := [(a, HO.ins C dx (oFs f2 (get s1).1 v2))]))
    rw [List.append_assoc, List.append_assoc, List.append_assoc]
    refine List.Perm.append_left hv' (List.Perm.append_left h1 ?_)
    refine (List.perm_append_comm (l₁ := (a, HO.ins C dx (oFs f2 (get s1).1 v2)) :: l2) (l₂ := g2)).trans ?_
    refine List.Perm.append_left g2 ?_
    exact (List.perm_append_comm (l₁ := [(a, HO.ins C dx (oFs f2 (get s1).1 v2))]) (l₂ := l2)))
  refine ⟨a, C, dx, _, rfl, (ok1.own _ List.mem_cons_self).1, T.cl, T.n2, by show 2 < 1000; decide, ?_⟩
  rw [oFs_put2 T.ne]
  have ok2 := (ok1.set (o' := .ins C dx (oFs f2 (get s1).1 v))).sub (h' := (a, .ins C dx (oFs f2 (get s1).1 v)) :: (hv' ++ (h1 ++ g2))) ((List.sublist_append_left _ _).cons₂ _)
  obtain ⟨h', p', q'⟩ := back F1 ((get s1).1, y) ((a, .ins C dx (oFs f2 (get s1).1 v)) :: hv') (Same.refl _) ⟨dx, v, hv', rfl, hb⟩
  refine hk _ σ F1 _ (e0.trans ex1) ⟨h1, h', sa, q', ok2.perm ?_⟩ c1
  refine List.Perm.trans ?_ (List.Perm.append_left h1 p'.symm)
  refine List.Perm.trans ?_ (List.perm_append_comm (l₁ := ((a, HO.ins C dx (oFs f2 (get s1).1 v)) :: hv') ++ g2) (l₂ := h1))
  rw [List.cons_append, List.cons_append, List.append_assoc]
  exact List.Perm.cons _ (List.Perm.append_left hv' List.perm_append_comm)
end
section
variable {C C' : Addr} {f2 g2 m x : Str} {B' : γ → VA} {e : Expr} {es : List Expr} {a : Addr} {i : Nat} {apos pos p0 p1 : Pos} {j : Nat} {ps : List Str} {αs : Type} {get : S → Int × (Int × γ)} {put : S → Int × (Int × γ) → S}
/-- self.f2.m(..), what stands in the field changes -/
theorem xe_methRS {PA : αs → List VA} {A' : αs → List VA} {mm : αs → Int × γ → (ρ → Int × γ → Prop) → Prop} {wa : (αs → Unit → Prop) → Prop} (foc : Foc O (resOb C f2 (fun st => okOb C' g2 B' st) a) get put) (hΓ : Γ[i]? = some (some (fz pA a))) (T : ClsO K C f2) (T' : ClsO K C' g2)
    (h : HasM P w K mg base C' m j ps (SpF Addr (fun ad z => fz pA ad :: PA z) (resOb C' g2 B') A mm)) (ha : XA M (fun _ : Unit => emp) Γ () (e :: es) A' wa) (hA : ∀ z, A' z = PA z := by intro _; rfl) (hj : j ≤ k := by first | decide | omega) (hm1 : (m == ("bits" : Str)) = false := by decide) (hm2 : (m == g2) = false := by decide)
    (hb0 : ∀ env, attributeBase (.Name x p0) f2 env (eval (.Name x p0) env) = eval (.Name x p0) env := by intro _; rfl)
    (ht : MethT (.Attribute (.Name x p0) f2 p1) m apos (e :: es) pos := by intro _; exact ⟨_, rfl⟩) (hs : NoStar e := by intro _ _; rfl) (hpl : ∀ env, (backTo pos (starEach es env)).any (·.1) = false := by intro _; rfl)
    (hN : N[i]? = some x := by rfl) (hv : Vis sc x := by first | exact Or.inl rfl | exact Or.inr (Or.inl rfl) | exact Or.inr (Or.inr rfl)) (hd : (x == ("__debug__" : Str)) = false := by decide) (hcd : (x == ("__classdict__" : Str)) = false := by decide) :
    XE M O Γ s (.Call (.Attribute (.Attribute (.Name x p0) f2 p1) m apos) (e :: es) [] pos) A (fun k => wa fun z _ => mm z (get s).2 fun y st' => k y (put s ((get s).1, st'))) := by
  intro HI D Q σ F H st hq hc
  obtain ⟨f, fd, e1, e3, e4⟩ := h.ex
  refine ⟨_, fun q => by
    obtain ⟨pl, q1⟩ := ht (M.X q).env
    exact pe_meth (pl := pl) (sp := SpF Addr (fun ad z => fz pA ad :: PA z) (resOb C' g2 B') A mm) (dvs := []) (ds := []) (E := E0) (by have h := pe_fld (pos := p1) (pe_nameO (M := M) (pos := p0) hN hv hd hcd q) (hb0 (M.X q).env); rw [M.kf q] at h; exact h) (by rw [M.kf]; exact T'.cl) (by rw [M.kf]; exact e1) (by rw [M.prog, M.wd, M.kf, M.mgl, M.bas]; exact e4) ((M.room q).mono hj) (by rw [M.kf]; exact e3) .nil pass0 (rdA_ok q) (hs _ _) (hpl _) q1, ?_⟩
  obtain ⟨v, ev, r⟩ := st.slot hΓ
  have r : v = .ref a := r
  subst r
  obtain ⟨h1, h2, sa, so, ok⟩ := st
  obtain ⟨g1, gr, pm, ⟨dx, v2, l2, eg, a', ev2, dx', v3, l3, el, bq⟩, back⟩ := foc.split so
  subst eg ev2 el
  have okp : Ok F (h1 ++ (((a, .ins C dx (oFs f2 (get s).1 (.ref a'))) :: (a', .ins C' dx' (oFs g2 (get s).2.1 v3)) :: l3) ++ gr)) HI H := ok.perm (List.Perm.append_left _ pm)
  refine ⟨.ref a, ev, a, C, dx, _, .ref a', rfl, (okp.own (a, _) (List.mem_append_right _ List.mem_cons_self)).1, T.cl, T.n2, oFs_2 T.ne, ?_⟩
  refine ⟨a', dx', _, rfl, (okp.own (a', _) (List.mem_append_right _ (List.mem_cons_of_mem _ List.mem_cons_self))).1, oFs_no hm1 hm2, ?_⟩
  refine ha (Sm.hide HI _) (fun z _ => mm z (get s).2 fun y st' => D y (put s ((get s).1, st'))) _ σ F H ⟨h1, [], sa, rfl, by rw [List.append_nil]; exact okp.hide⟩ (fun z s1 vs F1 H1 c1 ex al st1 => ?_) hc
  rw [hA] at al
  obtain ⟨k1, k2, sa1, eo, ok1⟩ := st1
  have eo : k2 = [] := eo
  subst eo
  rw [List.append_nil] at ok1
  have okf := okp.unhide ok1
  have okq : Ok F1 (((a', .ins C' dx' (oFs g2 (get s).2.1 v3)) :: l3) ++ ((a, .ins C dx (oFs f2 (get s).1 (.ref a'))) :: (gr ++ k1))) HI H1 := okf.perm (by
    refine List.perm_append_comm.trans ?_
    rw [List.append_assoc]
    exact (List.perm_middle (l₁ := (a', HO.ins C' dx' (oFs g2 (get s).2.1 v3)) :: l3) (l₂ := gr ++ k1) (a := (a, HO.ins C dx (oFs f2 (get s).1 (.ref a'))))).symm)
  rw [List.append_nil]
  refine ⟨a', z, (get s).2, F1, Sm.hide HI _, _, ⟨⟨rfl, rfl⟩, al⟩, ⟨dx', v3, l3, rfl, (B' (get s).2.2).mono ex bq⟩, okq.hide, _, fun y st' c v F' hv h2' H' e3' av o2 ok2 => ?_, c1⟩
  have ok3 := okq.unhide ok2
  obtain ⟨h', p', q'⟩ := back F' ((get s).1, st') ((a, .ins C dx (oFs f2 (get s).1 (.ref a'))) :: h2') (ex.trans e3') ⟨dx, .ref a', h2', rfl, a', rfl, o2⟩
  refine hq y _ v F' H' c (ex.trans e3') ⟨hv, k1, h', av, sa1.mono e3', q', ok3.perm ?_⟩
  rw [List.append_assoc]
  refine List.Perm.append_left hv ?_
  refine List.perm_middle.trans ?_
  refine List.Perm.trans ?_ (List.Perm.append_left k1 p'.symm)
  refine List.Perm.trans ?_ (List.perm_append_comm (l₁ := ((a, HO.ins C dx (oFs f2 (get s).1 (.ref a'))) :: h2') ++ gr) (l₂ := k1))
  rw [List.cons_append, List.cons_append, List.append_assoc]
end
/-- t[e] of a triple whose first two are ints, e one of them -/
theorem xe_pickI {a b : Expr} {pos : Pos} {wa : (Int × Int × γ → S → Prop) → Prop} {wb : S → (Int → S → Prop) → Prop} (ha : XE M O Γ s a (fz (pP3 K pI pI rc)) wa) (hb : ∀ s', XE M O Γ s' b (fz pI) (wb s')) (hs : PlainIx b := by intro _ _; rfl) :
    XE M O Γ s (.Subscript a b pos) (fz pI) (fun k => wa fun x s1 => wb s1 fun j s2 => (j = 0 ∨ j = 1) ∧ k (if j = 0 then x.1 else x.2.1) s2) := by
  intro HI C Q σ F H st hq hc
  refine ⟨_, fun i => pe_ix (by have h := ix_tup (X := M.X i); rw [M.kf i] at h; exact h) (rdE_ok i) (rdE_ok i) hs, two ha hb st (fun x j s' u v F' H' c e rx rj st' => ?_) hc⟩
  obtain ⟨t, u1, u2, u3, ev, hsq, r1, r2, r3⟩ := rx
  obtain ⟨hj, c⟩ := c
  have rj : v = .int j := rj
  subst ev rj
  rcases hj with rfl | rfl
  · exact ⟨t, [u1, u2, u3], 0, u1, rfl, rfl, SqT.mono st'.ok hsq, rfl, hq _ s' _ F' H' c e (st'.val r1)⟩
  · exact ⟨t, [u1, u2, u3], 1, u2, rfl, rfl, SqT.mono st'.ok hsq, rfl, hq _ s' _ F' H' c e (st'.val r2)⟩
end
end Sm

set_option Elab.async false
set_option linter.all false
set_option maxRecDepth 100000
set_option maxHeartbeats 4000000
namespace Sm
open PySem PySem.Spec PyProof.Rows L2
section
variable {X : Cx}
theorem pst_for {iter : Expr} {body : List Stmt} {tg : Expr} {wi : TI} {g : TG} {tb : TS} {pos : Pos} (hp : PassesOwn (model X.prog X.w) X.A X.env X.xe) (hc : X.calm = true) (hi : PI X tg iter wi) (hg : PG X tg g) (hb : PSsT X body tb)
    (hs : ∀ x, foldedSetIterable iter X.env x = pure x := by intro _; rfl) : PST X (.For tg iter body [] pos) (tFor wi g tb) := by
  intro pins s σ H D k0 I h
  refine wpAny_For (kt k0 (hi.run pins s σ H _ I h) fun v s1 h1 k1 => kt k1 h1 fun itv s2 h2 k2 => ?_) hs
  obtain ⟨it, fp, tn, J, H2, e, I2, T, st2, f2, W, ⟨m0, w0⟩, turn⟩ := h2
  subst e
  have stat : ∀ {H' : Hp}, (∀ b ∈ fp, H' b = none) → ∀ b ∈ fp, FpOk X pins H' b := fun hn b hb => ⟨hn b hb, (f2 b hb).2⟩
  refine codeAny_forLoop_any (fun n s' => 1 ≤ s'.toks ∧ ∃ i σ' H', Inv X pins σ' H' s' ∧ tn i s'.heap ∧ (∀ b ∈ fp, H' b = none) ∧ W i n σ' H') ?_ m0 ⟨k2, 0, σ, H2, I2, st2, fun b hb => (f2 b hb).1, w0⟩
  rintro n s3 ⟨k3, i, σ3, H3, I3, st3, fr3, w3⟩
  rcases turn i n σ3 H3 w3 with ⟨stop, qn⟩ | ⟨go, N, hN, step⟩
  · refine wpAny_passesOwn hp (thn (T.done X rfl rfl rfl hc i pins s3 σ3 H3 X.xe I3 (stat fr3) st3 stop) fun r s4 ⟨hr, I4⟩ => ?_)
    subst hr
    exact wpAny_execs_nil ⟨σ3, H3, I4, qn⟩
  · refine wpAny_passesOwn hp (kt k3 (T.item X rfl rfl rfl hc i pins s3 σ3 H3 X.xe I3 (stat fr3) st3 go) fun r s4 ⟨u, hr, h4⟩ k4 => ?_)
    subst hr
    refine wpAny_passesOwn hp (kt k4 h4 fun _ s5 ⟨x, H5, I5, r5, y5, st5, fr5⟩ k5 => ?_)
    have I5' := I5.pinned (stat fr5) (T.obj _ _ st5)
    refine wpAny_passesOwn hp (kt k5 (hg.run _ s5 σ3 H5 x u _ I5' r5 (step x H5 y5)) fun _ s6 ⟨σ6, H6, I6, q6⟩ k6 => ?_)
    refine wpAny_passesOwn hp (kt k6 (hb _ s6 σ6 H6 _ k6 I6 q6) fun f s7 q7 k7 => ?_)
    have again : ∀ {σ7 : L2.St} {H7 : Hp}, Inv X (pins ++ pinsAt fp s5.heap) σ7 H7 s7 → N σ7 H7 → ∃ m, m < n ∧ 1 ≤ s7.toks ∧ ∃ i σ' H', Inv X pins σ' H' s7 ∧ tn i s7.heap ∧ (∀ b ∈ fp, H' b = none) ∧ W i m σ' H' := fun {σ7 H7} I7 n7 => by
      obtain ⟨m', hm, w7⟩ := hN σ7 H7 n7
      refine ⟨m', hm, k7, i + 1, σ7, H7, I7.unpinned, T.keep _ _ _ st5 fun b hb o e => (I7.pin (b, o) (List.mem_append_right _ (List.mem_append_right _ (mem_pinsAt hb e)))).1, fun b hb => ?_, w7⟩
      obtain ⟨o, e, d⟩ := T.obj _ _ st5 b hb
      exact (I7.pin (b, o) (List.mem_append_right _ (List.mem_append_right _ (mem_pinsAt hb e)))).2.1
    cases f with
    | next => obtain ⟨σ7, H7, I7, n7⟩ := q7; exact again I7 n7
    | cont => obtain ⟨σ7, H7, I7, n7⟩ := q7; exact again I7 n7
    | brk => obtain ⟨σ7, H7, I7, q7⟩ := q7; exact ⟨σ7, H7, I7.unpinned, q7⟩
    | ret v => obtain ⟨x7, σ7, H7, I7, r7, q7⟩ := q7; exact ⟨x7, σ7, H7, I7.unpinned, r7, q7⟩
end
section
variable {P : Program} {w : World} {K : PySem.W.Frag} {mg : Str → Option Value} {base : Heap} {N : List Str} {sc : Scope} {fn : Str → Bool} {k : Nat}
variable {M : Fm P w K mg base N sc fn k}
variable {S : Type} {O : S → Res} {Γ : Asrt} {s : S} {α β γ ρ : Type} {ra : RP α} {rb : RP β} {A : ρ → VA}
theorem seqJTT {st : Stmt} {rest : List Stmt} {D : Ends} {σ : L2.St} {H : Hp} {R : L2.St → Hp → Prop} (hR : ∀ σ' H', R σ' H' → rdSsT M rest D σ' H') (h : ∃ t, (∀ i, PST (M.X i) st t) ∧ t { nx := R, rt := D.rt, bk := D.bk, ct := D.ct } σ H) : rdSsT M (st :: rest) D σ H := by
  obtain ⟨t, ht, h⟩ := h
  refine ⟨tSeq t (fun D' σ' H' => R σ' H' ∧ D' = D), fun i => psst_cons (ht i) (fun pins s σ H D' k0 I ⟨q, e⟩ => by subst e; exact rdSsT_ok i pins s σ H _ k0 I (hR _ _ q)), ?_⟩
  have e : (fun σ' H' => R σ' H' ∧ D = D) = R := funext fun _ => funext fun _ => propext (and_iff_left rfl)
  show t { nx := fun σ' H' => R σ' H' ∧ D = D, rt := D.rt, bk := D.bk, ct := D.ct } σ H
  rw [e]; exact h
theorem xst_forT {HI F0 : Hp} {nx rt bk ct} {tg iter : Expr} {body rest : List Stmt} {pos : Pos} {g : α → Asrt → Asrt} {L : List Nat} {wi : (List α → S → Prop) → Prop} {B : α → γ → S → (γ → S → Prop) → (γ → S → Prop) → Prop} {Pk : γ → S → Prop}
    (Γi : γ → Asrt) (c0 : γ) (hi : XI M O Γ s tg iter ra wi) (hg : XGt M tg ra g L) (h0 : Le Γ (Γi c0))
    (hb : ∀ F1, Same F0 F1 → ∀ x c kn kb s', XSsT M O HI F1 (g x (Γi c)) s' body { nx := nxJ O HI F1 Γi kn, rt := rt, bk := nxJ O HI F0 Γi kb, ct := nxJ O HI F1 Γi kn } (B x c s' kn kb))
    (hk : ∀ c s', XSsT M O HI F0 (Γi c) s' rest { nx := nx, rt := rt, bk := bk, ct := ct } (Pk c s')) (hΓ : ∀ c, (Γi c).length = N.length := by intro _; rfl) (hs : ∀ env x, foldedSetIterable iter env x = pure x := by intro _ _; rfl) :
    XSsT M O HI F0 Γ s (.For tg iter body [] pos :: rest) { nx := nx, rt := rt, bk := bk, ct := ct } (wi fun xs s1 => forB B Pk xs c0 s1) := by
  intro σ F H e0 st hp
  refine seqJTT (R := nxJ O HI F0 Γi Pk) (fun σ' H' ⟨z, s', F', p, e, st'⟩ => hk z s' σ' F' H' e st' p) ?_
  refine ⟨_, fun j => pst_for (M.pass j) (M.calm j) (rdI_ok j) (rdG_ok j) (rdSsT_ok j) (hs _), hi HI _ _ σ F H st (fun xs s1 J F1 H1 c1 e1 st1 jk => ?_) hp⟩
  let I : Nat → L2.St → Hp → Prop := fun i σ H => ∃ c s' F', Same F1 F' ∧ Stt O HI (Γi c) s' σ F' H ∧ forB B Pk (xs.drop i) c s'
  refine ⟨fun i m σ H => m = xs.length - i ∧ i ≤ xs.length ∧ I i σ H, ⟨xs.length, by simp, Nat.zero_le _, c0, s1, F1, Same.refl _, st1.le h0, c1⟩, ?_⟩
  rintro i m σ2 H2 ⟨rfl, hi', c, s', F', e2, st2, fw⟩
  obtain ⟨h1, h2, sa, so, ok⟩ := id st2
  obtain ⟨j1, j2⟩ := jk F' e2 HI _ H2 ok
  by_cases hlt : i < xs.length
  · have hx : xs[i]? = some xs[i] := List.getElem?_eq_getElem hlt
    obtain ⟨jgo, jy⟩ := j1 i _ hx
    rw [List.drop_eq_getElem_cons hlt] at fw
    refine .inr ⟨jgo, nxJ O HI F1 Γi (fun c' s' => forB B Pk (xs.drop (i + 1)) c' s'), fun σ' H' ⟨c', s5, F5, p5, e5, st5⟩ => ?_, fun v H3 hy => ?_⟩
    · exact ⟨xs.length - (i + 1), by omega, rfl, hlt, c', s5, F5, e5, st5, p5⟩
    · obtain ⟨F3, e3, ok3, rv⟩ := jy v H3 hy
      have st3 : Stt O HI (Γi c) s' σ2 F3 H3 := ⟨h1, h2, sa.mono e3, (O s').mono e3 so, ok3⟩
      refine hg.run O HI _ s' σ2 F3 H3 xs[i] v _ (hΓ c) st3 rv fun σ4 l4 o4 st4 => ?_
      exact hb F1 (e0.trans e1) xs[i] c _ _ s' σ4 F3 H3 (e2.trans e3) st4 fw
  · have e : i = xs.length := by omega
    subst e
    rw [List.drop_length] at fw
    exact .inl ⟨j2, c, s', F', fw, e0.trans (e1.trans e2), st2⟩
end
end Sm
namespace Sm
open PySem PySem.Spec PyProof.Rows L2
section
variable {X : Cx}
theorem pet_b1 {x : Str} {id : String} {e : Expr} {t : TE} {r : List V → Hp → VK → Prop} {p pos : Pos} (hc : CallR X (.builtin id) r) (hg : Gl X x) (hm : X.mg x = none) (hv : bootBuiltins x = some (.builtin id)) (he : PET X e t) (hn : x ≠ "__name__") (hdb : (x == ("__debug__" : Str)) = false) (hs : starEach [e] X.env = [(false, eval e X.env)]) :
    PET X (.Call (.Name x p) [e] [] pos) (fun σ H Q => t σ H fun x H1 => r [x] H1 Q) := by
  intro pins s σ H Q k0 I h
  refine wpAny_Call_Name_kw (ld_blt I hg hm hv ?_ hn hdb)
  refine PyProof.Rows.callWith_builtin1 (PyProof.Rows.args_cons (kt k0 (he pins s σ H _ k0 I h) fun v s1 ⟨x, H1, I1, r1, q1⟩ _ => PyProof.Rows.args_nil ?_) hs) hs rfl
  exact hc pins s1 σ H1 [x] [v] Q I1 (.cons r1 .nil) q1
theorem pst_asg {tg e : Expr} {te : TE} {g : TG} {pos : Pos} (he : PET X e te) (hg : PG X tg g) (hs : swapsWithSole [tg] e pos.line X.env = pure false) (hw : swappedStores [tg] e X.env = pure none)
    (h1 : (assignEach [tg] X.env).map (·.2) = [assign tg X.env]) : PST X (.Assign [tg] e pos) (tAsg te g) := by
  intro pins s σ H D k0 I h
  refine wpAny_Assign_stores (kt k0 (he pins s σ H _ k0 I h) fun v s1 ⟨x, H1, I1, r1, q1⟩ _ => ?_) hs hw
  rw [h1]
  exact thn (hg.run pins s1 σ H1 x v _ I1 r1 q1) fun _ s2 q => q
end
section
variable {P : Program} {w : World} {K : PySem.W.Frag} {mg : Str → Option Value} {base : Heap} {N : List Str} {sc : Scope} {fn : Str → Bool} {k : Nat}
variable {M : Fm P w K mg base N sc fn k}
variable {S : Type} {O : S → Res} {Γ : Asrt} {s : S} {α β γ ρ : Type} {ra : RP α} {rb : RP β} {A : ρ → VA}
theorem xet_addT {a b : Expr} {pos : Pos} {wa : (Text → S → Prop) → Prop} {wb : S → (Text → S → Prop) → Prop} (ha : XET M O Γ s a (fz pT) wa) (hb : ∀ s', XET M O Γ s' b (fz pT) (wb s')) :
    XET M O Γ s (.BinOp a .Add b pos) (fz pT) (fun k => wa fun x s1 => wb s1 fun y s2 => x.length + y.length ≤ sizeLine ∧ k (x ++ y) s2) := by
  intro HI C Q σ F H st hq hc
  refine ⟨_, fun i => CwR.pet_op op_add_str (rdET_ok i) (rdET_ok i), ha HI _ _ σ F H st (fun x s1 u F1 H1 c1 e1 sv1 => ?_) hc⟩
  obtain ⟨rx, st1⟩ := sv1.fz
  refine hb s1 HI _ _ σ F1 H1 st1 (fun y s2 v F2 H2 c2 e2 sv2 => ?_) c1
  obtain ⟨ry, st2⟩ := sv2.fz
  exact o_addT O HI Γ s2 σ F2 H2 x y u v _ Q st2 (pT.mono e2 rx) ry (fun z v' F3 H3 c3 e3 sv => hq z s2 v' F3 H3 c3 ((e1.trans e2).trans e3) sv) c2
open PySem.W in
theorem o_srt [DecidableEq α] (D : Dat K ra) (sD : Srt D) (hn : D.n ≤ 60) : Op1 (fun u => (rSrt K) [u]) (pL K ra) (ol ra) (fun x k => k (srt D x)) := by
  intro S' O' HI Γ' s' σ F H x u C Q st rx hq hc
  obtain ⟨a, vs, rfl, hS, al⟩ := rx
  obtain ⟨bs, e1, e2, e3, T, t1, t2, t3⟩ := all2_dp D st.ok al
  refine ⟨a, bs, rfl, by rw [e1]; exact SqL.mono st.ok hS, by rw [e1, e2]; exact e3, fun d hd d' hd' => ?_, by rw [e2]; exact sD.so x, fun b hb => ?_, fun q hp => ?_⟩
  · rw [e2] at hd hd'
    obtain ⟨y, _, rfl⟩ := List.mem_map.mp hd
    obtain ⟨z, _, rfl⟩ := List.mem_map.mp hd'
    exact sD.al y z
  · have : b.2 ∈ bs.map (·.2) := List.mem_map.mpr ⟨b, hb, rfl⟩
    rw [e2] at this
    obtain ⟨y, _, ey⟩ := List.mem_map.mp this
    rw [← ey]; exact Nat.le_trans (D.dep y) hn
  · have m1 : (T.mergeSort (dataLe false fun t => D.d t.1)).map (·.1) = srt D x := by
      unfold srt
      rw [← t1]
      exact List.map_mergeSort (s := dataLe false D.d) fun _ _ _ _ => rfl
    have m2 : (bs.mergeSort (dataLe false fun b => b.2)).map (·.1) = (T.mergeSort (dataLe false fun t => D.d t.1)).map (·.2) := by
      rw [t2, ← List.map_mergeSort (r := dataLe false fun t : α × V => D.d t.1) (s := dataLe false fun b : V × PyData => b.2) (f := fun t : α × V => (t.2, D.d t.1)) (fun _ _ _ _ => rfl), List.map_map]
      rfl
    rw [m2]
    refine hq _ _ F _ hc (Same.refl _) (st.newV hp ⟨q, _, rfl, rfl, ?_⟩)
    rw [← m1]
    exact all2_of fun t ht => t3 t (List.mem_mergeSort.mp ht)
theorem xet_sorted [DecidableEq α] {e : Expr} {p pos : Pos} {wa : (List α → S → Prop) → Prop} (D : Dat K ra) (sD : Srt D) (hm : mg "sorted" = none) (ha : XET M O Γ s e (fz (pL K ra)) wa) (hn : D.n ≤ 60 := by exact Nat.le_of_ble_eq_true rfl) (hg : GlN sc "sorted" := by rfl) (hs : NoStar e := by intro _ _; rfl) :
    XET M O Γ s (.Call (.Name "sorted" p) [e] [] pos) (ol ra) (fun k => wa fun x s1 => k (srt D x) s1) := by
  intro HI C Q σ F H st hq hc
  refine ⟨_, fun i => pet_b1 (by have h := cr_srt (X := M.X i) (M.room i).units; rw [M.kf i] at h; exact h) (Gl.of hg i) (M.none hm i) b_sorted (rdET_ok i) (by decide) (by decide) (hs _ _), ha HI _ _ σ F H st (fun x s1 u F1 H1 c1 e1 sv1 => ?_) hc⟩
  obtain ⟨rx, st1⟩ := sv1.fz
  exact o_srt D sD hn O HI Γ s1 σ F1 H1 x u (fun z => C z s1) _ st1 rx (fun z v' F2 H2 c2 e2 sv => hq z s1 v' F2 H2 c2 (e1.trans e2) sv) c1
theorem xst_setT {HI F0 : Hp} {D : Ends} {e : Expr} {x : Str} {p1 pos : Pos} {rest : List Stmt} {W : (ρ → S → Prop) → Prop} {Pk : ρ → S → Prop} (i : Nat) (he : XET M O Γ s e A W) (hk : ∀ y s', XSsT M O HI F0 (Γ.set i (some (A y))) s' rest D (Pk y s'))
    (hN : N[i]? = some x := by rfl) (hx : Loc sc x := by first | exact Or.inl rfl | exact Or.inr rfl) (hf : fn x = true ∨ sc.names.lookup x = some .local := by first | exact Or.inl rfl | exact Or.inr rfl) (hΓ : Γ.length = N.length := by rfl)
    (hs : ∀ j, swapsWithSole [.Name x p1] e pos.line (M.X j).env = pure false := by intro _; first | rfl | exact sw_cell (by rw [Fm.scp]; decide +kernel)) (hw : ∀ j, swappedStores [.Name x p1] e (M.X j).env = pure none := by intro _; rfl) (h1 : ∀ env, (assignEach [.Name x p1] env).map (·.2) = [assign (.Name x p1) env] := by intro _; rfl) :
    XSsT M O HI F0 Γ s (.Assign [.Name x p1] e pos :: rest) D (W Pk) := by
  intro σ F H e0 st hp
  have hi : i < N.length := (List.getElem?_eq_some_iff.mp hN).1
  refine ⟨_, fun j => psst_cons (pst_asg (g := gName i) (rdET_ok j) (pg_name (by rw [M.nn]; exact M.nd) (by rw [M.nn]; exact hN) (by rw [M.scp]; exact hx) (by rw [M.scp]; exact hf.imp (M.fnl j x) fun q => q)) (hs j) (hw j) (h1 _)) (rdSsT_ok j), he HI Pk _ σ F H st (fun y s' v F' H' c e1 sv => ?_) hp⟩
  exact hk y s' _ F' H' (e0.trans e1) (Stt.put sv (by rw [hΓ]; exact hi)) c
end
end Sm

set_option Elab.async false
set_option linter.all false
set_option maxRecDepth 100000
set_option maxHeartbeats 4000000
/-! x.remove(t), x.insert(i, y), alone; x an owned list -/
namespace Sm
open PySem PySem.Spec PyProof.Rows L2
section
variable {P : Program} {w : World} {K : PySem.W.Frag} {mg : Str → Option Value} {base : Heap} {N : List Str} {sc : Scope} {fn : Str → Bool} {k : Nat}
variable {M : Fm P w K mg base N sc fn k}
variable {S : Type} {O : S → Res} {Γ : Asrt} {s : S} {α β γ ρ : Type} {ra : RP α} {rb : RP β} {A : ρ → VA}
theorem xs_removeT {HI F0 : Hp} {D : Ends} {e1 : Expr} {x : Str} {p1 ap cp pos : Pos} {rest : List Stmt} {xs : List Text} {w1 : (Text → S → Prop) → Prop} {Pk : Nat → S → Prop} (i : Nat) (hΓ : Γ[i]? = some (some (ol pT xs))) (he1 : XE M O Γ s e1 (fz pT) w1)
    (hk : ∀ m s', XSs M O HI F0 (Γ.set i (some (ol pT (xs.eraseIdx m)))) s' rest D (Pk m s')) (hN : N[i]? = some x := by rfl) (hv : Vis sc x := by first | exact Or.inl rfl | exact Or.inr (Or.inl rfl) | exact Or.inr (Or.inr rfl)) (hd : (x == ("__debug__" : Str)) = false := by decide) (hcd : (x == ("__classdict__" : Str)) = false := by decide) (hns : NoStar e1 := by intro _ _; rfl)
    (hfew : ∀ env, ((backTo cp (starEach [e1] env)).all (fun x => !x.1) && (backToKw cp (keywordEach [] env)).all (fun x => x.1.isSome) && decide ([e1].length + ([] : List Keyword).length + (if ([] : List Keyword).isEmpty then 0 else 1) < 30)) = true := by intro _; rfl)
    (hline : (ap.endLine == cp.line) = true := by rfl) (hs : ∀ j, swapsWith (.Call (.Attribute (.Name x p1) "remove" ap) [e1] [] cp) none pos.line (M.X j).env = pure false := by intro _; rfl) :
    XSs M O HI F0 Γ s (.Expr (.Call (.Attribute (.Name x p1) "remove" ap) [e1] [] cp) pos :: rest) D (w1 fun q s1 => ∃ m : Nat, xs[m]? = some q ∧ (∀ j, j < m → xs[j]? ≠ some q) ∧ Pk m s1) := by
  intro σ F H e0 st hp
  refine ⟨_, fun j => pss_cons (ps_expr (by
    have h := pe_bm (X := M.X j) (cpos := cp) PySem.F.plainAttrs_list PySem.F.slot_list_remove PySem.F.type_list_remove mt_removeT (pe_nameO (pos := p1) hN hv hd hcd j) (pa_cons (rdE_ok (M := M) j) pa_nil (hns _ _)) rfl (hfew _) hline (hns _ _) rfl
    rw [M.kf j] at h; exact h) (hs j)) (rdSs_ok j), ?_⟩
  obtain ⟨a, vs, ea, eh, al, _⟩ := st.own hΓ
  refine ⟨.ref a, ea, .inl ⟨rfl, vs, SqL.of eh⟩, ?_⟩
  refine he1 HI _ _ σ F H st (fun q s1 iv F1 H1 c1 ex1 sv1 => ?_) hp
  obtain ⟨ri, st1⟩ := sv1.fz
  obtain ⟨m, hm, hno, c⟩ := c1
  obtain ⟨a', vs', ea', eh', al', up⟩ := st1.own hΓ
  rw [ea] at ea'; cases ea'
  have ev2 := texts_of al'
  have inj : ∀ {t y : Text}, (⟨t.toArray⟩ : Str) = ⟨y.toArray⟩ → t = y := fun {t y} q => by injection q with q; simpa using congrArg Array.toList q
  refine ⟨a, xs.map fun (t : Text) => (⟨t.toArray⟩ : Str), ⟨q.toArray⟩, m, rfl, by rw [ri.1], by rw [eh', ← ev2], by rw [List.getElem?_map, hm]; rfl, fun j hj z => ?_, ?_⟩
  · rw [List.getElem?_map] at z
    cases y : xs[j]? with
    | none => rw [y] at z; cases z
    | some t =>
      rw [y] at z
      exact hno j hj (by rw [y, inj (Option.some.inj z)])
  · rw [← ev2]
    exact hk m s1 σ F1 _ (e0.trans ex1) (up (xs.eraseIdx m) (vs'.eraseIdx m) (al'.eraseIdx m)) c
theorem xs_insertX {HI F0 : Hp} {D : Ends} {e1 e2 : Expr} {x : Str} {p1 ap cp pos : Pos} {rest : List Stmt} {xs : List α} {w1 : (Int → S → Prop) → Prop} {w2 : S → (α → S → Prop) → Prop} {Pk : Int → α → S → Prop} (i : Nat) (hΓ : Γ[i]? = some (some (ol ra xs))) (he1 : XE M O Γ s e1 (fz pI) w1) (he2 : ∀ s', XE M O Γ s' e2 (fz ra) (w2 s'))
    (hk : ∀ m y s', XSs M O HI F0 (Γ.set i (some (ol ra (xs.take m.toNat ++ [y] ++ xs.drop m.toNat)))) s' rest D (Pk m y s')) (hN : N[i]? = some x := by rfl) (hv : Vis sc x := by first | exact Or.inl rfl | exact Or.inr (Or.inl rfl) | exact Or.inr (Or.inr rfl)) (hd : (x == ("__debug__" : Str)) = false := by decide) (hcd : (x == ("__classdict__" : Str)) = false := by decide) (hns : NoStar e1 := by intro _ _; rfl) (hns2 : NoStar e2 := by intro _ _; rfl)
    (hfew : ∀ env, ((backTo cp (starEach [e1, e2] env)).all (fun x => !x.1) && (backToKw cp (keywordEach [] env)).all (fun x => x.1.isSome) && decide ([e1, e2].length + ([] : List Keyword).length + (if ([] : List Keyword).isEmpty then 0 else 1) < 30)) = true := by intro _; rfl)
    (hpl : ∀ env, (backTo cp (starEach [e2] env)).any (·.1) = false := by intro _; rfl) (hline : (ap.endLine == cp.line) = true := by rfl) (hs : ∀ j, swapsWith (.Call (.Attribute (.Name x p1) "insert" ap) [e1, e2] [] cp) none pos.line (M.X j).env = pure false := by intro _; rfl) :
    XSs M O HI F0 Γ s (.Expr (.Call (.Attribute (.Name x p1) "insert" ap) [e1, e2] [] cp) pos :: rest) D (w1 fun q s1 => w2 s1 fun y s2 => (xs.length < sizeLine ∧ 0 ≤ q ∧ q < 2 ^ 63) ∧ Pk q y s2) := by
  intro σ F H e0 st hp
  refine ⟨_, fun j => pss_cons (ps_expr (by
    have h := pe_bm (X := M.X j) (cpos := cp) PySem.F.plainAttrs_list PySem.F.slot_list_insert PySem.F.type_list_insert mt_insert (pe_nameO (pos := p1) hN hv hd hcd j) (pa_cons (rdE_ok (M := M) j) (pa_cons (rdE_ok (M := M) j) pa_nil (hns2 _ _)) (hns _ _)) rfl (hfew _) hline (hns _ _) (hpl _)
    rw [M.kf j] at h; exact h) (hs j)) (rdSs_ok j), ?_⟩
  obtain ⟨a, vs, ea, eh, al, _⟩ := st.own hΓ
  refine ⟨.ref a, ea, .inl ⟨rfl, vs, SqL.of eh⟩, ?_⟩
  refine two he1 he2 st (R := fun u v H2 => _) (fun q y s1 iv yv F1 H1 c1 ex1 ri ry st1 => ?_) hp
  obtain ⟨⟨z1, z2, z3⟩, c⟩ := c1
  obtain ⟨a', vs', ea', eh', al', up⟩ := st1.own hΓ
  rw [ea] at ea'; cases ea'
  refine ⟨a, vs', q, yv, rfl, by rw [show iv = V.int q from ri], eh', by rw [← al'.length]; exact z1, z2, z3, ?_⟩
  have one : All2 (fun x v => ra.r x v F1) [y] [yv] := ⟨ry, trivial⟩
  exact hk q y s1 σ F1 _ (e0.trans ex1) (up _ _ (((al'.take q.toNat).append one).append (al'.drop q.toNat))) c
end
end Sm

set_option Elab.async false
set_option linter.all false
set_option maxRecDepth 100000
set_option maxHeartbeats 4000000
/-! x = ['..']: behind it a token is out -/
namespace Sm
open PySem PySem.Spec PyProof.Rows L2
section
variable {X : Cx}
theorem pss_tokL {j : Nat} {x c : Str} {cpos lpos pos' pos : Pos} {rest : List Stmt} {u : TS} {g : TG} (hg : PG X (.Name x pos') g) (h2 : PSsT X rest u)
    (hs : swapsWithSole [.Name x pos'] (.List [.Constant (.str c) j cpos] lpos) pos.line X.env = pure false) (hw : swappedStores [.Name x pos'] (.List [.Constant (.str c) j cpos] lpos) X.env = pure none) (h1 : (assignEach [.Name x pos'] X.env).map (·.2) = [assign (.Name x pos') X.env]) :
    PSs X (.Assign [.Name x pos'] (.List [.Constant (.str c) j cpos] lpos) pos :: rest) (tSeq (tAsg (tLst (tCons (tC (.str c)) tNil)) g) u) := by
  refine ⟨fun pins s σ H D I h => ?_⟩
  refine wpAny_execs_cons (wpAny_Assign_stores (wpAny_List_spliced ?_) hs hw)
  show wpAny _ _ (spliced ((false, eval (.Constant (.str c) j cpos) X.env) :: backTo lpos (starEach [] X.env))) _ _ s
  refine Calls.spliced_cons (Calls.Constant_str (Calls.spliced_nil ?_))
  have h0 : (1 : Nat) ≤ sizeLine := by decide
  refine ⟨h0, ?_⟩
  rw [h1]
  obtain ⟨_, h⟩ := h
  have hf : H s.heap.objs.size = none := I.hok.fresh (Nat.le_refl _)
  have I1 : Inv X pins σ (upd H s.heap.objs.size (.lst [.str c])) { s with heap := s.heap.push { cls := .type "list", data := .seq [Value.str c s.toks].toArray }, toks := s.toks + 1 } :=
    I.laid (t' := s.toks + 1) (fun b u e => Heap.get?_push_of_some _ e) (Nat.le_refl _) ⟨h0, [.str c s.toks], 0, .cons ⟨_, rfl⟩ .nil, Heap.get?_push_size _ rfl⟩
  exact kt (show 1 ≤ s.toks + 1 by omega) (hg.run pins _ σ _ (.ref s.heap.objs.size) (.ref s.heap.objs.size) _ I1 rfl (h _ hf)) fun _ s2 ⟨σ', H', I', q'⟩ k2 => h2 pins s2 σ' H' D k2 I' q'
end
section
variable {P : Program} {w : World} {K : PySem.W.Frag} {mg : Str → Option Value} {base : Heap} {N : List Str} {sc : Scope} {fn : Str → Bool} {k : Nat}
variable {M : Fm P w K mg base N sc fn k}
variable {S : Type} {O : S → Res} {Γ : Asrt} {s : S} {α β γ ρ : Type} {ra : RP α} {rb : RP β} {A : ρ → VA}
theorem xs_tok {HI F0 : Hp} {D : Ends} {x c : Str} {j : Nat} {cpos lpos p1 pos : Pos} {rest : List Stmt} {Pf : Prop} (i : Nat) (l : Text) (hk : XSsT M O HI F0 (Γ.set i (some (ol pT [l]))) s rest D Pf) (el : c = ⟨l.toArray⟩ := by decide +kernel) (ok : okT l := by decide)
    (hN : N[i]? = some x := by rfl) (hx : Loc sc x := by first | exact Or.inl rfl | exact Or.inr rfl) (hf : fn x = true ∨ sc.names.lookup x = some .local := by first | exact Or.inl rfl | exact Or.inr rfl) (hΓ : Γ.length = N.length := by rfl)
    (hs : ∀ jj, swapsWithSole [.Name x p1] (.List [.Constant (.str c) j cpos] lpos) pos.line (M.X jj).env = pure false := by intro _; first | rfl | exact sw_cell (by rw [Fm.scp]; decide +kernel)) (hw : ∀ jj, swappedStores [.Name x p1] (.List [.Constant (.str c) j cpos] lpos) (M.X jj).env = pure none := by intro _; rfl) (h1 : ∀ env, (assignEach [.Name x p1] env).map (·.2) = [assign (.Name x p1) env] := by intro _; rfl) :
    XSs M O HI F0 Γ s (.Assign [.Name x p1] (.List [.Constant (.str c) j cpos] lpos) pos :: rest) D Pf := by
  intro σ F H e0 st hp
  have hi : i < N.length := (List.getElem?_eq_some_iff.mp hN).1
  refine ⟨_, fun jj => pss_tokL (g := gName i) (pg_name (by rw [M.nn]; exact M.nd) (by rw [M.nn]; exact hN) (by rw [M.scp]; exact hx) (by rw [M.scp]; exact hf.imp (M.fnl jj x) fun q => q)) (rdSsT_ok jj) (hs jj) (hw jj) (h1 _), ?_⟩
  refine ⟨show 1 ≤ sizeLine by decide, fun p hp' => ?_⟩
  have sv := st.newV (A := ol pT [l]) hp' ⟨p, [.str c], rfl, rfl, ⟨⟨by rw [el], ok⟩, trivial⟩⟩
  exact hk _ F _ e0 (Stt.put sv (by rw [hΓ]; exact hi)) hp
end
end Sm

set_option Elab.async false
set_option linter.all false
set_option maxRecDepth 100000
set_option maxHeartbeats 4000000
/-! targets of unlike lists; an append to a list at its address; a call whose first argument is made there -/
namespace Sm
open PySem PySem.Spec PyProof.Rows L2
theorem hz_L {K : PySem.W.Frag} {α : Type} {ra : RP α} {a : Addr} : ∀ (st : List α) F h F', (resL ra a st).p F h → Same F F' → (∀ p ∈ h, F' p.1 = some p.2) → (pL K ra).r st (.ref a) F' :=
  fun st F h F' ⟨vs, h1, h2⟩ e m => ⟨a, vs, rfl, .inl (.inl (m (a, .lst vs) (by rw [h1]; exact List.mem_cons_self))), h2.imp fun _ _ q => ra.mono e q⟩
section
variable {P : Program} {w : World} {K : PySem.W.Frag} {mg : Str → Option Value} {base : Heap} {N : List Str} {sc : Scope} {fn : Str → Bool} {k : Nat}
variable {M : Fm P w K mg base N sc fn k}
variable {S : Type} {O : S → Res} {Γ : Asrt} {s : S} {α β γ ρ : Type} {ra : RP α} {rb : RP β} {rc : RP γ} {A : ρ → VA}
theorem xg_lstX2 {t1 t2 : Expr} {kk : Nat} {pos : Pos} {g1 : α → Asrt → Asrt} {g2 : β → Asrt → Asrt} {L1 L2 : List Nat} (h1 : XGt M t1 ra g1 L1) (h2 : XGt M t2 rb g2 L2)
    (hn : ∀ env, (assignEach [t1, t2] env).length = 2 := by intro _; rfl) (hst : ∀ env, (assignEach [t1, t2] env).findIdx? (·.1) = none := by intro _; rfl)
    (hs : ∀ env, (assignEach [t1, t2] env).map (·.2) = assign t1 env :: (assignEach [t2] env).map (·.2) := by intro _; rfl) (hs2 : ∀ env, (assignEach [t2] env).map (·.2) = assign t2 env :: (assignEach [] env).map (·.2) := by intro _; rfl) :
    XGt M (.Tuple [t1, t2] kk pos) (pX2 K ra rb) (fun y Γ => g2 y.2 (g1 y.1 Γ)) (L1 ++ L2) := by
  refine ⟨fun O HI Γ s σ F H y v Q hl st ry hq => ?_, fun y Γ => by rw [h2.len, h1.len], fun y Γ j hj => ?_⟩
  · obtain ⟨a, u1, u2, ev, hT, r1, r2⟩ := ry
    refine ⟨gUnl K 2 (gCons (rdG M t1) (gCons (rdG M t2) gNil)), fun i => ?_, a, [u1, u2], ev, SqL.mono st.ok hT, rfl, u1, [u2], rfl, h1.run O HI Γ s σ F H y.1 u1 _ hl st r1 fun σ1 l1 o1 st1 => ⟨u2, [], rfl, h2.run O HI _ s σ1 F H y.2 u2 _ (by rw [h1.len]; exact hl) st1 r2 fun σ2 l2 o2 st2 => ⟨rfl, ?_⟩⟩⟩
    · have q := pg_unl (X := M.X i) (k := kk) (pos := pos) (M.calm i) (pgs_cons (rdG_ok i) (pgs_cons (rdG_ok i) pgs_nil (hs2 _)) (hs _)) (hn _) (hst _)
      rw [M.kf i] at q
      exact q
    · exact hq σ2 (l2.trans l1) (fun j hj => by rw [o2 j fun z => hj (List.mem_append_right _ z), o1 j fun z => hj (List.mem_append_left _ z)]) st2
  · rw [h2.out _ _ _ fun z => hj (List.mem_append_right _ z), h1.out _ _ _ fun z => hj (List.mem_append_left _ z)]
theorem xg_lstX3 {t1 t2 t3 : Expr} {kk : Nat} {pos : Pos} {g1 : α → Asrt → Asrt} {g2 : β → Asrt → Asrt} {g3 : γ → Asrt → Asrt} {L1 L2 L3 : List Nat} (h1 : XGt M t1 ra g1 L1) (h2 : XGt M t2 rb g2 L2) (h3 : XGt M t3 rc g3 L3)
    (hn : ∀ env, (assignEach [t1, t2, t3] env).length = 3 := by intro _; rfl) (hst : ∀ env, (assignEach [t1, t2, t3] env).findIdx? (·.1) = none := by intro _; rfl)
    (hs : ∀ env, (assignEach [t1, t2, t3] env).map (·.2) = assign t1 env :: (assignEach [t2, t3] env).map (·.2) := by intro _; rfl) (hs2 : ∀ env, (assignEach [t2, t3] env).map (·.2) = assign t2 env :: (assignEach [t3] env).map (·.2) := by intro _; rfl)
    (hs3 : ∀ env, (assignEach [t3] env).map (·.2) = assign t3 env :: (assignEach [] env).map (·.2) := by intro _; rfl) :
    XGt M (.Tuple [t1, t2, t3] kk pos) (pX3 K ra rb rc) (fun y Γ => g3 y.2.2 (g2 y.2.1 (g1 y.1 Γ))) (L1 ++ (L2 ++ L3)) := by
  refine ⟨fun O HI Γ s σ F H y v Q hl st ry hq => ?_, fun y Γ => by rw [h3.len, h2.len, h1.len], fun y Γ j hj => ?_⟩
  · obtain ⟨a, u1, u2, u3, ev, hT, r1, r2, r3⟩ := ry
    refine ⟨gUnl K 3 (gCons (rdG M t1) (gCons (rdG M t2) (gCons (rdG M t3) gNil))), fun i => ?_, a, [u1, u2, u3], ev, SqL.mono st.ok hT, rfl, u1, [u2, u3], rfl, h1.run O HI Γ s σ F H y.1 u1 _ hl st r1 fun σ1 l1 o1 st1 => ⟨u2, [u3], rfl, h2.run O HI _ s σ1 F H y.2.1 u2 _ (by rw [h1.len]; exact hl) st1 r2 fun σ2 l2 o2 st2 =>
      ⟨u3, [], rfl, h3.run O HI _ s σ2 F H y.2.2 u3 _ (by rw [h2.len, h1.len]; exact hl) st2 r3 fun σ3 l3 o3 st3 => ⟨rfl, ?_⟩⟩⟩⟩
    · have q := pg_unl (X := M.X i) (k := kk) (pos := pos) (M.calm i) (pgs_cons (rdG_ok i) (pgs_cons (rdG_ok i) (pgs_cons (rdG_ok i) pgs_nil (hs3 _)) (hs2 _)) (hs _)) (hn _) (hst _)
      rw [M.kf i] at q
      exact q
    · exact hq σ3 (l3.trans (l2.trans l1)) (fun j hj => by
        rw [o3 j fun z => hj (List.mem_append_right _ (List.mem_append_right _ z)), o2 j fun z => hj (List.mem_append_right _ (List.mem_append_left _ z)), o1 j fun z => hj (List.mem_append_left _ z)]) st3
  · rw [h3.out _ _ _ fun z => hj (List.mem_append_right _ (List.mem_append_right _ z)), h2.out _ _ _ fun z => hj (List.mem_append_right _ (List.mem_append_left _ z)), h1.out _ _ _ fun z => hj (List.mem_append_left _ z)]
/-- x.append(e), x at a known address -/
theorem xs_resApp {HI F0 : Hp} {D : Ends} {e : Expr} {x : Str} {p1 ap cp pos : Pos} {rest : List Stmt} {i : Nat} {a : Addr} {get : S → List α} {put : S → List α → S} {W : (α → S → Prop) → Prop} {Pk : S → Prop} (foc : Foc O (resL ra a) get put) (hΓ : Γ[i]? = some (some (fz pA a))) (he : XE M O Γ s e (fz ra) W)
    (hk : ∀ s', XSs M O HI F0 Γ s' rest D (Pk s')) (hN : N[i]? = some x := by rfl) (hv : Vis sc x := by first | exact Or.inl rfl | exact Or.inr (Or.inl rfl) | exact Or.inr (Or.inr rfl)) (hd : (x == ("__debug__" : Str)) = false := by decide) (hcd : (x == ("__classdict__" : Str)) = false := by decide)
    (hns : NoStar e := by intro _ _; rfl) (hfew : ∀ env, ((backTo cp (starEach [e] env)).all (fun x => !x.1) && (backToKw cp (keywordEach [] env)).all (fun x => x.1.isSome) && decide ([e].length + ([] : List Keyword).length + (if ([] : List Keyword).isEmpty then 0 else 1) < 30)) = true := by intro _; rfl)
    (hline : (ap.endLine == cp.line) = true := by rfl) (hs : ∀ j, swapsWith (.Call (.Attribute (.Name x p1) "append" ap) [e] [] cp) none pos.line (M.X j).env = pure false := by intro _; rfl) :
    XSs M O HI F0 Γ s (.Expr (.Call (.Attribute (.Name x p1) "append" ap) [e] [] cp) pos :: rest) D (W fun y s' => (get s').length < sizeLine ∧ Pk (put s' (get s' ++ [y]))) := by
  intro σ F H e0 st hp
  refine ⟨_, fun j => pss_cons (ps_expr (by
    have h := pe_bm (X := M.X j) (cpos := cp) PySem.F.plainAttrs_list PySem.F.slot_list_append PySem.F.type_list_append mt_append (pe_nameO (pos := p1) hN hv hd hcd j) (pa_cons (rdE_ok (M := M) j) pa_nil (hns _ _)) rfl (hfew _) hline (hns _ _) rfl
    rw [M.kf j] at h; exact h) (hs j)) (rdSs_ok j), ?_⟩
  obtain ⟨v, ev, r⟩ := st.slot hΓ
  have r : v = .ref a := r
  subst r
  obtain ⟨k1, k2, ⟨us, eu, bl⟩, oku, _⟩ := st.res foc
  subst eu
  refine ⟨.ref a, ev, .inl ⟨rfl, us, SqL.of (oku.own _ List.mem_cons_self).1⟩, ?_⟩
  refine he HI _ _ σ F H st (fun y s' u F' H' c e1 sv => ?_) hp
  obtain ⟨ru, st'⟩ := sv.fz
  obtain ⟨g1, g2, ⟨vs, eg, al⟩, ok, back⟩ := st'.res foc
  subst eg
  refine ⟨a, vs, u, rfl, rfl, (ok.own _ List.mem_cons_self).1, by rw [← al.length]; exact c.1, ?_⟩
  exact hk _ σ F' _ (e0.trans e1) (back F' _ _ [(a, .lst (vs ++ [u]))] (Same.refl _) ⟨_, rfl, al.append (ys := [y]) (ws := [u]) ⟨ru, trivial⟩⟩ ok.set) c.2
/-- f(g(..), ..): the list that the first argument makes is the callee's resource, and gone behind it -/
theorem xe_callM {S1 S2 : Type} {O2 : Addr → S2 → Res} {I : List α → S2 → Prop} {x : Str} {j : Nat} {ps : List Str} {αs ad : Type} {PA : ad → αs → List VA} {O1 : ad → S1 → Res} {m : αs → S1 → (ρ → S1 → Prop) → Prop} {p pos : Pos} {e : Expr} {es : List Expr} {A' : αs → List VA} {w0 : (List α → S → Prop) → Prop} {wa : S → (αs → S → Prop) → Prop} {get : S × S2 → S1} {put : S × S2 → S1 → S × S2}
    (h : Has P w K mg base x j ps (SpF ad PA O1 A m)) (a : Addr → ad) (adp : ∀ y, Adp (ol ra y) O2 (I y)) (foc : ∀ b, Foc (resP O (O2 b)) (O1 (a b)) get put) (h0 : XE M O Γ s e (ol ra) w0) (ha : ∀ s', XA M O Γ s' es A' (wa s')) (hj : j ≤ k := by first | decide | omega) (hg : GlN sc x := by rfl) (hA : ∀ b z, PA (a b) z = fz pA b :: A' z := by intro _ _; rfl)
    (hs : NoStar e := by intro _ _; rfl) (hpl : ∀ env, (backTo pos (starEach es env)).any (·.1) = false := by intro _; rfl) (hdb : (x == ("__debug__" : Str)) = false := by decide) :
    XE M O Γ s (.Call (.Name x p) (e :: es) [] pos) A (fun k => w0 fun y s1 => wa s1 fun z s2 => ∃ n, I y n ∧ m z (get (s2, n)) fun r s3 => k r (put (s2, n) s3).1) := by
  intro HI C Q σ F H st hq hc
  obtain ⟨f, fd, e1, e2, e3, e4⟩ := h.ex
  refine ⟨_, fun i => pe_call (sp := SpF ad PA O1 A m) (dvs := []) (ds := []) (E := E0) (by rw [M.prog, M.wd, M.kf, M.mgl, M.bas]; exact e4) ((M.room i).mono hj) (Gl.of hg i) (by rw [M.mgl]; exact e1) (by rw [M.kf]; exact e2) (by rw [M.kf]; exact e3) .nil pass0 (pa_cons (rdE_ok i) (rdA_ok i) (hs _ _)) hdb (hs _ _) (hpl _), ?_⟩
  refine h0 HI _ _ σ F H st (fun y s1 v F1 H1 c1 ex1 sv1 => ?_) hc
  obtain ⟨hv, h1, h2, bv, sa, so, ok⟩ := sv1
  have okp : Ok F1 ((h1 ++ h2) ++ hv) HI H1 := ok.perm List.perm_append_comm
  refine ha s1 (Sm.hide HI hv) _ _ σ F1 H1 ⟨h1, h2, sa, so, okp.hide⟩ (fun z s2 vs F2 H2 c2 ex2 al st2 => ?_) c1
  obtain ⟨l1, l2, sa2, so2, ok2⟩ := st2
  have ok3 : Ok F2 ((l1 ++ l2) ++ hv) HI H2 := okp.unhide ok2
  obtain ⟨n, hn, c2⟩ := c2
  obtain ⟨b, ea, o2⟩ := adp y n hn v F2 hv ((ol ra y).mono ex2 bv)
  subst ea
  obtain ⟨g1, g2, pm, so1, back⟩ := (foc b).split (s := (s2, n)) (F := F2) (h := l2 ++ hv) ⟨l2, hv, rfl, so2, o2⟩
  have okq : Ok F2 (g1 ++ (g2 ++ l1)) HI H2 := ok3.perm (by
    rw [List.append_assoc]
    refine (List.perm_append_comm).trans ?_
    refine (pm.append_right l1).trans ?_
    rw [List.append_assoc])
  rw [List.append_nil]
  refine ⟨a b, z, get (s2, n), F2, Sm.hide HI (g2 ++ l1), g1, by rw [hA]; exact ⟨⟨rfl, rfl⟩, al⟩, so1, okq.hide, _, fun r s3 c v' F' hv' h2' H' e3 av o3 ok4 => ?_, c2⟩
  obtain ⟨h', p', hh1, hh2, eh, q1, q2⟩ := back F' s3 h2' e3 o3
  refine hq r (put (s2, n) s3).1 v' F' H' c (ex1.trans (ex2.trans e3)) ⟨hv', l1, hh1, av, sa2.mono e3, q1, ?_⟩
  have ok5 := okq.unhide ok4
  subst eh
  have ok6 : Ok F' (hv' ++ (l1 ++ (hh1 ++ hh2))) HI H' := ok5.perm (by
    rw [List.append_assoc]
    refine List.Perm.append_left hv' ?_
    refine List.Perm.trans ?_ List.perm_append_comm
    refine List.Perm.trans ?_ (p'.symm.append_right l1)
    rw [List.append_assoc])
  refine ok6.sub (List.Sublist.append_left (List.Sublist.append_left (List.sublist_append_left _ _) _) _)
end
end Sm

set_option Elab.async false
set_option linter.all false
set_option maxRecDepth 100000
set_option maxHeartbeats 4000000
/-! a caught exception is kept as a thing of the heap: its class, its dict -/
namespace Sm
open PySem PySem.Spec PyProof.Rows L2
/-- at a: an exception of the class cls, its dict d -/
def exK (cls : Value) (d : Option Addr) (a : Addr) : HO := .ext fun h => ∃ (oe : Obj) (vs : Array Value), h.get? a = some oe ∧ Zc cls d oe ∧ oe.data = .fields vs
theorem exK_mk {P : Program} {w : World} {H : Hp} {h : Heap} {a : Addr} {cls : Value} {d : Option Addr} {oe : Obj} {vs : Array Value} (e : h.get? a = some oe) (z : Zc cls d oe) (q : oe.data = .fields vs) : ObjOk P w H h a (exK cls d a) :=
  ⟨⟨oe, vs, e, z, q⟩, ⟨oe, e⟩, fun _ _ ⟨o, v, r, t⟩ k => ⟨o, v, k o r, t⟩⟩
theorem exK_get {P : Program} {w : World} {H : Hp} {h : Heap} {a : Addr} {cls : Value} {d : Option Addr} (hok : HOk P w H h) (e : H a = some (exK cls d a)) : ∃ (oe : Obj) (vs : Array Value), h.get? a = some oe ∧ Zc cls d oe ∧ oe.data = .fields vs := by
  have q : ObjOk P w H h a (.ext fun h => ∃ (oe : Obj) (vs : Array Value), h.get? a = some oe ∧ Zc cls d oe ∧ oe.data = .fields vs) := hok a _ e
  exact q.1
section
variable {X : Cx} {pins : List (Addr × Obj)} {σ : L2.St} {H : Hp} {s : Shared} {a : Addr} {o : HO}
/-- an object that stands, and that was not there at the entry, is told of -/
theorem tell_of (I : Inv X pins σ H s) (na : H a = none) (n0 : X.s_0.heap.get? a = none) (hp : ∀ p ∈ X.pn ++ pins, p.1 ≠ a) (nL : X.env.locals ≠ a) (nC : ∀ x c, X.env.cells.lookup x = some c → c ≠ a)
    (new : ObjOk X.prog X.w (upd H a o) s.heap a o) : Inv X pins σ (upd H a o) s := by
  have ne0 : ∀ {b : Addr} {u : Obj}, X.s_0.heap.get? b = some u → b ≠ a := fun {b u} q z => by rw [z, n0] at q; cases q
  have neH : ∀ {b : Addr} {u : HO}, H b = some u → b ≠ a := fun {b u} q => ne_of_none q na
  refine { ok := I.ok, os := I.os, bare := I.bare, loc := I.loc, cell := I.cell, len := I.len, base := ?_, free := ?_, freeC := ?_, pin := ?_, hok := ?_ }
  · exact { keep := I.base.keep, slot := I.base.slot, there := I.base.there,
            free := fun b u q n hx => by rw [upd_ne (ne0 q)]; exact I.base.free b u q n hx,
            tups := fun b xs q => by have := I.base.tups b xs q; rw [upd_ne (neH this)]; exact this,
            frzs := fun b u v q => by have := I.base.frzs b u v q; rw [upd_ne (neH this)]; exact this,
            tbls := fun b ps q => by obtain ⟨m, z⟩ := I.base.tbls b ps q; exact ⟨m, by rw [upd_ne (neH z)]; exact z⟩ }
  · rw [upd_ne nL]; exact I.free
  · intro x c q; rw [upd_ne (nC x c q)]; exact I.freeC x c q
  · intro p q
    obtain ⟨p1, p2, p3⟩ := I.pin p q
    exact ⟨p1, by rw [upd_ne (hp p q)]; exact p2, p3⟩
  · exact I.hok.laidN (fun _ _ q => q) na new
theorem in_suite (I : Inv X pins σ H s) : Inv (X.suite a (X.pn ++ pins)) [] σ H s :=
  ⟨I.ok.suite _ _, I.os, I.bare, I.base, I.loc, I.cell, I.free, I.freeC, fun p q => I.pin p (by simpa using q), I.hok, I.len⟩
theorem of_suite {pn : List (Addr × Obj)} (I : Inv (X.suite a (X.pn ++ pins)) pn σ H s) (ok : X.Ok) : Inv X pins σ H s :=
  ⟨ok, I.os, I.bare, I.base, I.loc, I.cell, I.free, I.freeC, fun p q => I.pin p (List.mem_append_left _ q), I.hok, I.len⟩
end
/-- what the clause wishes of an exception of the body; it is told of from there on -/
def wKp (K : PySem.W.Frag) (c : Value) (i : Nat) (ts : Addr → TS) (D : Ends) : WX := fun cls d σ H =>
  PySem.W.exmOne K cls c = some true ∧ ∀ a, H a = none → ts a { nx := fun σ' H' => D.nx (σ'.set i none) H', rt := D.rt, bk := fun σ' H' => D.bk (σ'.set i none) H', ct := fun σ' H' => D.ct (σ'.set i none) H' } (σ.set i (some (.ref a))) (upd H a (exK cls d a))
section
variable {X : Cx} {x n : Str} {c : Value} {i : Nat} {body suite : List Stmt} {b₀ : Stmt} {np pos pos' : Pos} {tb : WX → TS} {ts : Addr → TS}
/-- try: body, except x as n: suite; the exception stays known -/
theorem ps_tryK (hs : X.stack = X.env :: X.outer) (hf : X.env.frame = some X.env.locals) (hex : X.ex = []) (hN : X.N.Nodup) (hi : X.N[i]? = some n) (hln : X.env.kindOf n = some .local) (hc : Names X x c)
    (hb : ∀ (W : WX) (pn : List (Addr × Obj)) (xe : Value → Shared → Prop), Takes (X.tr pn xe) W → PassesOwn (model X.prog X.w) X.A X.env xe → PSs (X.tr pn xe) body (tb W))
    (hsu : ∀ (a : Addr) (pn : List (Addr × Obj)), PSs (X.suite a pn) (b₀ :: suite) (ts a)) :
    PS X (.Try body [.ExceptHandler (some (.Name x np)) (some n) (b₀ :: suite) pos'] [] [] pos) (fun D σ H => tb (wKp X.K c i ts D) D σ H) := by
  refine ⟨fun pins s σ H D I h => ?_⟩
  have ok := I.ok
  have frm : X.A.frames = some (X.env :: X.outer) := by rw [ok.frames, hs]
  have key : ∀ (u : Value) (s' : Shared), L2.XE (X.tr (X.pn ++ pins) fun e s₁ => wpAny (model X.prog X.w) X.A (noteFrame e X.env) (fun _ s₂ => wpAny (model X.prog X.w) X.A (setFlight e none) (fun _ s₃ =>
      wpAny (model X.prog X.w) X.A (handleBy e X.env [.ExceptHandler (some (.Name x np)) (some n) (b₀ :: suite) pos']) (SP X pins D) X.xe s₃) X.xe s₂) X.xe s₁) (wKp X.K c i ts D) u s' →
      wpAny (model X.prog X.w) X.A (noteFrame u X.env) (fun _ s₂ => wpAny (model X.prog X.w) X.A (setFlight u none) (fun _ s₃ =>
      wpAny (model X.prog X.w) X.A (handleBy u X.env [.ExceptHandler (some (.Name x np)) (some n) (b₀ :: suite) pos']) (SP X pins D) X.xe s₃) X.xe s₂) X.xe s' := by
    rintro u s' ⟨a, B, s1, pins', σ', H', cls, d, rfl, J', nb, up, sky, na, os, ag, hb1, hyes⟩
    have J : Inv X pins σ' H' s1 := J'.ofTry ok
    have sky2 : Sky B (X.env :: X.outer) a (Zc cls d) X.env.locals s'.heap := by rw [← hs]; exact sky
    refine Sky.land Zc.steady frm hf sky2 fun h3 fl3 up3 => ?_
    have J3 : Inv X pins σ' H' { s' with heap := h3 } := J.landed nb fl3.1 (up.trans up3) os ag
    obtain ⟨oe3, vs3, g3, z3, d3⟩ := fl3.there
    have nfr : a ∉ frs (X.env :: X.outer) := fun hm => by
      obtain ⟨_, o', e', hnf⟩ := fl3.2.2.1.mem hm
      rw [g3] at e'
      cases e'
      exact hnf _ d3
    have nL : X.env.locals ≠ a := fun z => nfr (List.mem_filterMap.mpr ⟨X.env, List.mem_cons_self, by rw [hf, z]⟩)
    have nin : ∀ {b : Addr} {u : Obj}, s1.heap.get? b = some u → b ∉ frs (X.env :: X.outer) → b ≠ a := fun {b u} q hb z => by
      have := nb b u q (by rw [hs]; exact hb)
      rw [z, fl3.2.1] at this
      cases this
    have n0 : X.s_0.heap.get? a = none := by
      cases q : X.s_0.heap.get? a with
      | none => rfl
      | some u =>
        obtain ⟨u', q'⟩ := J.base.there a u q (by rw [hex]; exact fun z => nomatch z)
        exact absurd rfl (nin q' nfr)
    have npin : ∀ p ∈ X.pn ++ pins, p.1 ≠ a := fun p hp => by
      obtain ⟨p1, p2, p3, p4, _⟩ := J.pin p hp
      refine nin p1 fun hm => ?_
      unfold frs at hm
      rw [List.filterMap_cons, hf] at hm
      rcases List.mem_cons.mp hm with z | z
      · exact p3 z
      · exact p4 z
    refine wpAny_handleBy_cons (codeAny_handlers_test ?_) (by intro q; cases q)
    have look : PySem.W.Looks (model X.prog X.w) h3 (typeOf (.ref a)) cls := fun A Q E s k q => wpAny_typeOf_ref (k _ _ g3) (by rw [z3.1]; exact q)
    have hit := PySem.W.exm_one (M := model X.prog X.w) J3.kIn look hb1
    have S3 := in_suite (a := a) J3
    have named : ∀ {Q : Value → Shared → Prop} {E : Value → Shared → Prop}, Q c { s' with heap := h3 } → wpAny (model X.prog X.w) (X.A.mark (some (.ref a))) (eval (.Name x np) X.env) Q E { s' with heap := h3 } := fun {Q E} q => by
      obtain ⟨hg, hdbg, hm | ⟨hm, hv, hnn⟩⟩ := hc
      · exact ld_glob (X := X.suite a (X.pn ++ pins)) S3 hg hm q hdbg
      · exact ld_blt (X := X.suite a (X.pn ++ pins)) S3 hg hm hv q hnn hdbg
    refine named (hit.here (codeAny_handlers_suite_as (HandSPX.lands_againZ fl3 fun h4 fl4 up4 => ?_)))
    have J4 : Inv X pins σ' H' { s' with heap := h4 } := J.landed nb fl4.1 ((up.trans up3).trans up4) os ag
    obtain ⟨oe4, vs4, g4, z4, d4⟩ := fl4.there
    have T4 : Inv X pins σ' (upd H' a (exK cls d a)) { s' with heap := h4 } := tell_of J4 na n0 npin nL (fun y cc q => by
      obtain ⟨v, oc, e1, e2⟩ := J4.cell y cc q
      intro z
      rw [z] at e1
      have e1 : h4.get? a = some oc := e1
      rw [g4] at e1
      cases e1
      rw [d4] at e2
      cases e2) (exK_mk g4 z4 d4)
    refine store_ok (X := X.suite a (X.pn ++ pins)) (v := .ref a) (in_suite T4) hN hi (.inl hln) rfl (fun s5 S5 => ?_) (.inr hln)
    refine wpAny_mono ((hsu a (X.pn ++ pins)).run [] s5 _ _ _ S5 (hyes a na)) (fun f s6 hsp => ?_) (fun _ _ z => False.elim z)
    have out : ∀ {σ6 : L2.St} {H6 : Hp} {Q : Shared → Prop}, Inv (X.suite a (X.pn ++ pins)) [] σ6 H6 s6 → (∀ s7, Inv X pins (σ6.set i none) H6 s7 → Q s7) →
        wpAny (model X.prog X.w) X.A (do bindName X.env n .none; unbindBehindTheSuite X.env n pos') (fun _ s7 => Q s7) X.xe s6 := fun {σ6 H6 Q} S6 hq => gone_ok (of_suite S6 ok) hN hi hln hq
    cases f with
    | next =>
      obtain ⟨σ6, H6, S6, q6⟩ := hsp
      exact out S6 fun s7 J7 => ⟨_, _, J7, q6⟩
    | brk =>
      obtain ⟨σ6, H6, S6, q6⟩ := hsp
      exact out S6 fun s7 J7 => ⟨_, _, J7, q6⟩
    | cont =>
      obtain ⟨σ6, H6, S6, q6⟩ := hsp
      exact out S6 fun s7 J7 => ⟨_, _, J7, q6⟩
    | ret u =>
      obtain ⟨v6, σ6, H6, S6, r6, q6⟩ := hsp
      exact out S6 fun s7 J7 => ⟨_, _, _, J7, r6, q6⟩
  refine wpAny_Try_except (wpAny_mono ((hb (wKp X.K c i ts D) (X.pn ++ pins) _ key PassesOwn.looking).run [] s σ H D (I.toTry _) h) (fun f s1 hsp => ?_) fun e s1 he => he)
  cases f with
  | next =>
    obtain ⟨σ', H', J', q⟩ := hsp
    exact wpAny_execs_nil ⟨σ', H', J'.ofTry ok, q⟩
  | brk =>
    obtain ⟨σ', H', J', q⟩ := hsp
    exact ⟨σ', H', J'.ofTry ok, q⟩
  | cont =>
    obtain ⟨σ', H', J', q⟩ := hsp
    exact ⟨σ', H', J'.ofTry ok, q⟩
  | ret u =>
    obtain ⟨v, σ', H', J', r, q⟩ := hsp
    exact ⟨v, σ', H', J'.ofTry ok, r, q⟩
end
end Sm

set_option Elab.async false
set_option linter.all false
set_option maxRecDepth 100000
set_option maxHeartbeats 4000000
/-! what may be raised: expressions, statements, defs -/
namespace Sm
open PySem PySem.Spec PyProof.Rows L2
/-- the program's refusals -/
inductive Exn | set (n : Int) | corner (t : Text) | parting | ask
/-- where their classes stand -/
structure ExA where
  set : Addr
  corner : Addr
  parting : Addr
  ask : Addr
def exR (C : ExA) : Exn → Value → Option Addr → Hp → Prop
  | .set n, cls, d, F => cls = .ref C.set ∧ ∃ dd v, d = some dd ∧ F dd = some (.xd [(("place" : Str), v)]) ∧ v = .int n
  | .corner t, cls, d, F => cls = .ref C.corner ∧ ∃ dd v, d = some dd ∧ F dd = some (.xd [(("corner" : Str), v)]) ∧ v = .str ⟨t.toArray⟩ ∧ okT t
  | .parting, cls, d, F => cls = .ref C.parting ∧ d = none
  | .ask, cls, d, F => cls = .ref C.ask ∧ d = none
theorem exR.mono {C : ExA} {e : Exn} {cls : Value} {d : Option Addr} {F F' : Hp} (h : Same F F') (q : exR C e cls d F) : exR C e cls d F' := by
  cases e with
  | set n => obtain ⟨a, dd, v, b, c, e⟩ := q; exact ⟨a, dd, v, b, h _ _ c, e⟩
  | corner n => obtain ⟨a, dd, v, b, c, e⟩ := q; exact ⟨a, dd, v, b, h _ _ c, e⟩
  | parting => exact q
  | ask => exact q
/-- an exception as a value -/
def pEx (C : ExA) : RP Exn := ⟨fun e v F => ∃ a cls d, v = .ref a ∧ F a = some (exK cls d a) ∧ exR C e cls d F, fun h ⟨a, cls, d, e1, e2, e3⟩ => ⟨a, cls, d, e1, h _ _ e2, e3.mono h⟩⟩
/-- what an exception's dict needs is named -/
theorem exR_loose {C : ExA} {e : Exn} {cls : Value} {d : Option Addr} {F : Hp} (q : exR C e cls d F) : ∃ bs : List Addr, (∀ b ∈ bs, ∃ o, F b = some o ∧ Loose o) ∧ ∀ F' : Hp, (∀ b ∈ bs, F' b = F b) → exR C e cls d F' := by
  cases e with
  | set n =>
    obtain ⟨a, dd, v, b, c, e⟩ := q
    exact ⟨[dd], fun x hx => by rw [List.mem_singleton.mp hx]; exact ⟨_, c, fun z => z⟩, fun F' h => ⟨a, dd, v, b, by rw [h dd List.mem_cons_self]; exact c, e⟩⟩
  | corner n =>
    obtain ⟨a, dd, v, b, c, e⟩ := q
    exact ⟨[dd], fun x hx => by rw [List.mem_singleton.mp hx]; exact ⟨_, c, fun z => z⟩, fun F' h => ⟨a, dd, v, b, by rw [h dd List.mem_cons_self]; exact c, e⟩⟩
  | parting => exact ⟨[], fun x hx => (by cases hx), fun F' h => q⟩
  | ask => exact ⟨[], fun x hx => (by cases hx), fun F' h => q⟩
section
variable {P : Program} {w : World} {K : PySem.W.Frag} {mg : Str → Option Value} {base : Heap} {N : List Str} {sc : Scope} {fn : Str → Bool} {k : Nat}
variable {M : Fm P w K mg base N sc fn k}
variable {S S1 S2 : Type} {O : S → Res} {Γ Δ : Asrt} {s : S} {α β γ ρ : Type} {ra : RP α} {rb : RP β} {rc : RP γ} {A : ρ → VA} {C : ExA}
/-- an expression that may raise -/
def XER (M : Fm P w K mg base N sc fn k) (C : ExA) {ρ : Type} (O : S → Res) (Γ : Asrt) (s : S) (e : Expr) (A : ρ → VA) (W : (ρ → S → Prop) → (Exn → S → Prop) → Prop) : Prop :=
  ∀ (HI : Hp) (Cn : ρ → S → Prop) (Cx : Exn → S → Prop) (Q : VK) (Wx : WX) (σ : L2.St) (F H : Hp), (∀ i, Takes (M.X i) Wx) → Stt O HI Γ s σ F H →
    (∀ x s' v F' H', Cn x s' → Same F F' → SttV O HI Γ s' σ F' H' (A x) v → Q v H') →
    (∀ ex s' cls d F' H', Cx ex s' → Same F F' → exR C ex cls d F' → Stt O HI Γ s' σ F' H' → Wx cls d σ H') → W Cn Cx → rdE M e σ H Q
def XTR (M : Fm P w K mg base N sc fn k) (C : ExA) (O : S → Res) (Γ : Asrt) (s : S) (e : Expr) (W : (Bool → S → Prop) → (Exn → S → Prop) → Prop) : Prop :=
  ∀ (HI : Hp) (Cn : Bool → S → Prop) (Cx : Exn → S → Prop) (Q : Bool → Hp → Prop) (Wx : WX) (σ : L2.St) (F H : Hp), (∀ i, Takes (M.X i) Wx) → Stt O HI Γ s σ F H →
    (∀ x s' F' H', Cn x s' → Same F F' → Stt O HI Γ s' σ F' H' → Q x H') →
    (∀ ex s' cls d F' H', Cx ex s' → Same F F' → exR C ex cls d F' → Stt O HI Γ s' σ F' H' → Wx cls d σ H') → W Cn Cx → rdT M e σ H Q
/-- what may leave the block: kx of it is so -/
def Rz (M : Fm P w K mg base N sc fn k) (C : ExA) (O : S → Res) (HI F0 : Hp) (Γr : Asrt) (kx : Exn → S → Prop) : Prop :=
  ∃ Wx : WX, (∀ i, Takes (M.X i) Wx) ∧ ∀ ex s' cls d σ F H, kx ex s' → Same F0 F → exR C ex cls d F → Stt O HI Γr s' σ F H → Wx cls d σ H
theorem Rz.on {HI F0 F1 : Hp} {Γr : Asrt} {kx : Exn → S → Prop} (R : Rz M C O HI F0 Γr kx) (e : Same F0 F1) : Rz M C O HI F1 Γr kx := by
  obtain ⟨Wx, a, b⟩ := R
  exact ⟨Wx, a, fun ex s' cls d σ F H c e1 => b ex s' cls d σ F H c (e.trans e1)⟩
theorem xr_of {e : Expr} {W : (ρ → S → Prop) → Prop} (h : XE M O Γ s e A W) : XER M C O Γ s e A (fun k _ => W k) := fun HI Cn Cx Q Wx σ F H _ st hq _ hc => h HI Cn Q σ F H st hq hc
/-! ### statements -/
section
variable {HI F0 : Hp} {D : Ends} {e : Expr} {pos : Pos} {rest : List Stmt} {Γr : Asrt} {kx : Exn → S → Prop}
theorem xs_exprR {W : (ρ → S → Prop) → (Exn → S → Prop) → Prop} {Pk : S → Prop} (R : Rz M C O HI F0 Γr kx) (hl : Le Γ Γr) (he : XER M C O Γ s e A W) (hk : ∀ s', XSs M O HI F0 Γ s' rest D (Pk s')) (hs : ∀ j, swapsWith e none pos.line (M.X j).env = pure false := by intro _; rfl) :
    XSs M O HI F0 Γ s (.Expr e pos :: rest) D (W (fun _ s' => Pk s') kx) := by
  intro σ F H e0 st hp
  obtain ⟨Wx, tk, hx⟩ := R
  refine ⟨_, fun j => pss_cons (ps_expr (rdE_ok j) (hs j)) (rdSs_ok j), he HI _ _ _ Wx σ F H tk st (fun y s' v F' H' c e1 sv => ?_) (fun ex s' cls d F' H' c e1 q st' => hx ex s' cls d σ F' H' c (e0.trans e1) q (st'.le hl)) hp⟩
  exact hk s' σ F' H' (e0.trans e1) sv.drop c
theorem xs_setR {x : Str} {p1 : Pos} {W : (ρ → S → Prop) → (Exn → S → Prop) → Prop} {Pk : ρ → S → Prop} (i : Nat) (R : Rz M C O HI F0 Γr kx) (hl : Le Γ Γr) (he : XER M C O Γ s e A W) (hk : ∀ y s', XSs M O HI F0 (Γ.set i (some (A y))) s' rest D (Pk y s'))
    (hN : N[i]? = some x := by rfl) (hx : Loc sc x := by first | exact Or.inl rfl | exact Or.inr rfl) (hf : fn x = true ∨ sc.names.lookup x = some .local := by first | exact Or.inl rfl | exact Or.inr rfl) (hΓ : Γ.length = N.length := by rfl)
    (hs : ∀ j, swapsWithSole [.Name x p1] e pos.line (M.X j).env = pure false := by intro _; rfl) (hw : ∀ j, swappedStores [.Name x p1] e (M.X j).env = pure none := by intro _; rfl) (h1 : ∀ env, (assignEach [.Name x p1] env).map (·.2) = [assign (.Name x p1) env] := by intro _; rfl) :
    XSs M O HI F0 Γ s (.Assign [.Name x p1] e pos :: rest) D (W Pk kx) := by
  intro σ F H e0 st hp
  obtain ⟨Wx, tk, hxx⟩ := R
  have hi : i < N.length := (List.getElem?_eq_some_iff.mp hN).1
  refine ⟨_, fun j => pss_cons (ps_asg (g := gName i) (rdE_ok j) (pg_name (by rw [M.nn]; exact M.nd) (by rw [M.nn]; exact hN) (by rw [M.scp]; exact hx) (by rw [M.scp]; exact hf.imp (M.fnl j x) fun q => q)) (hs j) (hw j) (h1 _)) (rdSs_ok j), ?_⟩
  refine he HI Pk _ _ Wx σ F H tk st (fun y s' v F' H' c e1 sv => ?_) (fun ex s' cls d F' H' c e1 q st' => hxx ex s' cls d σ F' H' c (e0.trans e1) q (st'.le hl)) hp
  exact hk y s' _ F' H' (e0.trans e1) (Stt.put sv (by rw [hΓ]; exact hi)) c
theorem xs_retR {HI F00 F0 : Hp} {W : (ρ → S → Prop) → (Exn → S → Prop) → Prop} {Rt : ρ → S → Prop} {nx bk ct} (R : Rz M C O HI F0 Γr kx) (hl : Le Γ Γr) (hF : Same F00 F0) (he : XER M C O Γ s e A W) :
    XSs M O HI F0 Γ s (.Return (some e) pos :: rest) { nx := nx, rt := rtJ O HI F00 A Rt, bk := bk, ct := ct } (W Rt kx) := by
  intro σ F H e0 st hp
  obtain ⟨Wx, tk, hxx⟩ := R
  refine ⟨_, fun i => pss_cons (ps_ret (rdE_ok i)) pss_never, he HI Rt _ _ Wx σ F H tk st (fun x s' v F' H' c e1 sv => ?_) (fun ex s' cls d F' H' c e1 q st' => hxx ex s' cls d σ F' H' c (e0.trans e1) q (st'.le hl)) hp⟩
  exact ⟨x, s', F', c, hF.trans (e0.trans e1), sv.bare⟩
theorem xs_ifR {nx rt bk ct} {c : Expr} {a : List Stmt} {wc : (Bool → S → Prop) → (Exn → S → Prop) → Prop} {Pa Pb : S → Prop} (R : Rz M C O HI F0 Γr kx) (hl : Le Γ Γr) (hc : XTR M C O Γ s c wc)
    (ha : ∀ nx' s', XSs M O HI F0 Γ s' a { nx := nx', rt := rt, bk := bk, ct := ct } (Pa s')) (hb : ∀ s', XSs M O HI F0 Γ s' rest { nx := nx, rt := rt, bk := bk, ct := ct } (Pb s')) :
    XSs M O HI F0 Γ s (.If c a [] pos :: rest) { nx := nx, rt := rt, bk := bk, ct := ct } (wc (fun x s1 => if x = true then Pa s1 else Pb s1) kx) := by
  intro σ F H e0 st hp
  obtain ⟨Wx, tk, hxx⟩ := R
  refine ⟨_, fun j => pss_cons (ps_if (rdT_ok j) (rdSs_ok j) pss_nil) (rdSs_ok j), hc HI _ _ _ Wx σ F H tk st (fun x s' F' H' c e1 st1 => ?_) (fun ex s' cls d F' H' c e1 q st' => hxx ex s' cls d σ F' H' c (e0.trans e1) q (st'.le hl)) hp⟩
  cases x with
  | true => exact iteT (ha _ s' σ F' H' (e0.trans e1) st1 (by simpa using c))
  | false => exact iteF (hb s' σ F' H' (e0.trans e1) st1 (by simpa using c))
/-- raise X("..."), X without an __init__ of its own -/
theorem xs_raise0 {x m : Str} {j : Nat} {p p2 : Pos} {a : Addr} {Cl : Addr} {bmB : List Value} {ex : Exn} (R : Rz M C O HI F0 Γr kx) (hl : Le Γ Γr) (q : PySem.W.excIn K Cl bmB "ValueError.__new__" = true) (eb : bmB = [.type "ValueError", .type "Exception", .type "BaseException", .type "object"])
    (gC : mg x = some (.ref Cl)) (kC : PySem.W.keepIn K (.ref Cl) = true) (h1 : PySem.W.subIn K (.ref Cl) (.type "BaseException") = some true) (h2 : PySem.W.typeIn K (.ref Cl) = some (.type "type")) (hex : ∀ F, exR C ex (.ref Cl) none F)
    (hg : GlN sc x := by rfl) (hdb : (x == ("__debug__" : Str)) = false := by decide) : XSs M O HI F0 Γ s (.Raise (some (.Call (.Name x p) [.Constant (.str m) j p2] [] pos)) none pos :: rest) D (kx ex s) := by
  subst eb
  intro σ F H e0 st hp
  obtain ⟨Wx, tk, hxx⟩ := R
  refine ⟨_, fun i => pss_cons (ps_raise (M.calm i) (tk i) (pmk_own PySem.F.excBase_ValueError (by rw [M.kf]; exact q) (by rw [M.mgl]; exact gC) (by rw [M.kf]; exact kC) (raises_own (by rw [M.kf]; exact h1) (by rw [M.kf]; exact h2)) (Gl.of hg i) hdb)) pss_never, ?_⟩
  exact hxx ex s _ _ σ F H hp e0 (hex F) (st.le hl)
end
/-! ### promises of defs that may raise -/
def SpFX {αs S ρ : Type} (C : ExA) (ad : Type) (PA : ad → αs → List VA) (O : ad → S → Res) (A : ρ → VA) (m : αs → S → (ρ → S → Prop) → (Exn → S → Prop) → Prop) : Sp := fun vs H Q E =>
  ∃ (a : ad) (x : αs) (s : S) (F : Hp) (HI : Hp) (h2 : HL), AllV (PA a x) vs F ∧ (O a s).p F h2 ∧ Ok F h2 HI H ∧
    ∃ (Cn : ρ → S → Prop) (Cx : Exn → S → Prop), (∀ y s', Cn y s' → ∀ v F' hv h2' H', Same F F' → (A y).p v F' hv → (O a s').p F' h2' → Ok F' (hv ++ h2') HI H' → Q v H') ∧
      (∀ ex s', Cx ex s' → ∀ cls d F' h2' H', Same F F' → exR C ex cls d F' → (O a s').p F' h2' → Ok F' h2' HI H' → E cls d H') ∧ m x s Cn Cx
structure HasX (P : Program) (w : World) (K : PySem.W.Frag) (mg : Str → Option Value) (base : Heap) (x : Str) (j : Nat) (ps : List Str) (sp : Sp) : Prop where
  ex : ∃ f fd, mg x = some (.ref f) ∧ PySem.W.keepIn K (.ref f) = true ∧ Binds K fd ps [] ∧ FnOk P w K mg base (L2.CX P w) j f fd ps sp
structure HasMX (P : Program) (w : World) (K : PySem.W.Frag) (mg : Str → Option Value) (base : Heap) (C : Addr) (m : Str) (j : Nat) (ps : List Str) (sp : Sp) : Prop where
  ex : ∃ f fd, Meth K C m f ∧ Binds K fd ps [] ∧ FnOk P w K mg base (L2.CX P w) j f fd ps sp
theorem Sat.nones0 {F : Hp} : ∀ {n : Nat} {σ : L2.St} {h : HL}, Sat (List.replicate n none) σ F h → h = []
  | 0, [], _, q => q
  | n + 1, _ :: σ, _, q => Sat.nones0 (n := n) (σ := σ) q
theorem fn_okX {x qual : Str} {st : Stmt} {f : Addr} {fd : FuncData} {ps : List Str} {αs ρ ad : Type} {S : Type} {PA : ad → αs → List VA} {O : ad → S → Res} {A : ρ → VA} {m : αs → S → (ρ → S → Prop) → (Exn → S → Prop) → Prop} (F : Fun K x qual st f fd) (Sc : FnScope N ps (defScope st))
    (hlen : ∀ a x, (PA a x).length = ps.length)
    (body : ∀ (M : Fm P w K mg base N (defScope st) (fun _ => true) k) (a : ad) (x : αs) (s : S) (HI F0 : Hp) (R : ρ → S → Prop) (kx : Exn → S → Prop), Rz M C (O a) HI F0 (List.replicate N.length none) kx → XSs M (O a) HI F0 ((PA a x).map some ++ List.replicate (N.length - ps.length) none) s (defBody st) { nx := fun _ H' => rtJ (O a) HI F0 A R .non H', rt := rtJ (O a) HI F0 A R, bk := fun _ _ => False, ct := fun _ _ => False } (m x s R kx)) :
    FnOk P w K mg base (L2.CX P w) (k + 1) f fd ps (SpFX C ad PA O A m) := by
  refine F.okX Sc (fun vs H Q E h => ?_) (fun cdv A' outer s H vs Q E hr h => ?_)
  · obtain ⟨a, x, s, F, HI, h2, av, _⟩ := h
    rw [← av.length]; exact hlen a x
  · obtain ⟨a, x, s', F', HI, h2, av, ho, ok, Cn, Cx, hC, hX, hm⟩ := h
    let M : Fm P w K mg base N (defScope st) (fun _ => true) k := { ι := Unit, X := fun _ => cxOf (L2.CX P w) P w K mg base N qual (defScope st) f cdv A' outer s H E, prog := fun _ => rfl, wd := fun _ => rfl, kf := fun _ => rfl, mgl := fun _ => rfl, bas := fun _ => rfl, nn := fun _ => rfl, scp := fun _ => rfl, calm := fun _ => rfl, room := fun _ => hr, pass := fun _ => passes_of rfl, fnl := fun _ _ _ => rfl, nd := Sc.nd }
    have rz : Rz M C (O a) HI F' (List.replicate N.length none) Cx := ⟨fun cls d _ H => E cls d H, fun _ => takes_of rfl rfl rfl rfl, fun ex s1 cls d σ F1 H1 c e1 q ⟨h1, h2', sa, so, ok'⟩ => by
      have := Sat.nones0 sa
      subst this
      exact hX ex s1 c cls d F1 h2' H1 e1 q so ok'⟩
    refine ⟨rdSs M (defBody st), rdSs_ok (M := M) (), ?_⟩
    have hl : (PA a x).length = vs.length := av.length
    have fin : ∀ v H', rtJ (O a) HI F' A Cn v H' → Q v H' := fun v H' ⟨y, s5, F5, r5, e5, hv, h1, h2, q1, q2, q3, q4⟩ => by
      have q2 : h1 = [] := q2
      subst q2
      exact hC y s5 r5 v F5 hv h2 H' e5 q1 q3 q4
    refine rdSs_mono (body M a x s' HI F' _ _ rz (L2.start N vs) F' H (Same.refl _) ⟨[], h2, ?_, ho, ok⟩ hm) (fun _ H' q => fin _ _ q) fin (fun _ _ q => q.elim) (fun _ _ q => q.elim)
    unfold L2.start
    rw [← hl, hlen a x]
    exact Sat.start _ av
theorem passX {X : Cx} {W : WX} (tk : Takes X W) (P : Program) (w : World) (hp : X.prog = P) (hw : X.w = w) (σ : L2.St) : PassesAt (L2.CX P w) X σ (WE W σ) := by subst hp hw; exact passAt tk σ
/-- f(e, ..), f may raise -/
theorem xr_call {x : Str} {j : Nat} {ps : List Str} {αs ad S1 : Type} {PA : ad → αs → List VA} {O1 : ad → S1 → Res} {m : αs → S1 → (ρ → S1 → Prop) → (Exn → S1 → Prop) → Prop} {p pos : Pos} {e : Expr} {es : List Expr} {A' : αs → List VA} {wa : (αs → S → Prop) → Prop} {get : S → S1} {put : S → S1 → S}
    (h : HasX P w K mg base x j ps (SpFX C ad PA O1 A m)) (a : ad) (foc : Foc O (O1 a) get put) (ha : XA M O Γ s (e :: es) A' wa) (hj : j ≤ k := by first | decide | omega) (hg : GlN sc x := by rfl) (hA : ∀ z, A' z = PA a z := by intro _; rfl)
    (hs : NoStar e := by intro _ _; rfl) (hpl : ∀ env, (backTo pos (starEach es env)).any (·.1) = false := by intro _; rfl) (hdb : (x == ("__debug__" : Str)) = false := by decide) :
    XER M C O Γ s (.Call (.Name x p) (e :: es) [] pos) A (fun k kx => wa fun z s1 => m z (get s1) (fun y s2 => k y (put s1 s2)) (fun ex s2 => kx ex (put s1 s2))) := by
  intro HI Cn Cx Q Wx σ F H tk st hq hx hc
  obtain ⟨f, fd, e1, e2, e3, e4⟩ := h.ex
  refine ⟨tCallS (SpFX C ad PA O1 A m) (WE Wx) (rdA M (e :: es)), fun i => pe_callS (CX := L2.CX P w) (by rw [M.prog, M.wd, M.kf, M.mgl, M.bas]; exact e4) ((M.room i).mono hj) (Gl.of hg i) (by rw [M.mgl]; exact e1) (by rw [M.kf]; exact e2) (by rw [M.kf]; exact e3) (fun σ => passX (tk i) P w (M.prog i) (M.wd i) σ) (rdA_ok i) hdb (hs _ _) (hpl _), ?_⟩
  refine ha HI _ _ σ F H st (fun z s1 vs F1 H1 c1 ex al st1 => ?_) hc
  rw [hA] at al
  obtain ⟨h1, h2, sa, so, ok⟩ := st1
  obtain ⟨g1, g2, pm, so1, back⟩ := foc.split so
  have okp : Ok F1 (g1 ++ (g2 ++ h1)) HI H1 := ok.perm (by
    refine (List.perm_append_comm).trans ?_
    refine (pm.append_right h1).trans ?_
    rw [List.append_assoc])
  have home : ∀ {s2 : S1} {F' H' : Hp} {hv h2' : HL}, Same F1 F' → (O1 a s2).p F' h2' → Ok F' (hv ++ h2') (Sm.hide HI (g2 ++ h1)) H' → ∃ h', (O (put s1 s2)).p F' h' ∧ Ok F' (hv ++ (h1 ++ h')) HI H' := fun {s2 F' H' hv h2'} e3 o2 ok2 => by
    obtain ⟨h', p', q'⟩ := back F' s2 h2' e3 o2
    refine ⟨h', q', (okp.unhide ok2).perm ?_⟩
    rw [List.append_assoc]
    refine List.Perm.append_left hv ?_
    refine List.Perm.trans ?_ List.perm_append_comm
    refine List.Perm.trans ?_ (p'.symm.append_right h1)
    rw [List.append_assoc]
  refine ⟨a, z, get s1, F1, Sm.hide HI (g2 ++ h1), g1, al, so1, okp.hide, _, _, fun y s2 c v F' hv h2' H' e3 av o2 ok2 => ?_, fun exn s2 c cls d F' h2' H' e3 q o2 ok2 => ?_, c1⟩
  · obtain ⟨h', q', ok3⟩ := home e3 o2 ok2
    exact hq y (put s1 s2) v F' H' c (ex.trans e3) ⟨hv, h1, h', av, sa.mono e3, q', ok3⟩
  · obtain ⟨h', q', ok3⟩ := home (hv := []) e3 o2 ok2
    exact hx exn (put s1 s2) cls d F' H' c (ex.trans e3) q ⟨h1, h', sa.mono e3, q', ok3⟩
/-- as a test -/
theorem xtr_val {e : Expr} {W : (Bool → S → Prop) → (Exn → S → Prop) → Prop} (h : XER M C O Γ s e (fz pB) W) (he : ∀ i whole, isTrue e (M.X i).env whole = (do let v ← whole; standAt e.pos; holding [v] (truthy v)) := by intro _ _; rfl) : XTR M C O Γ s e W := by
  intro HI Cn Cx Q Wx σ F H tk st hq hx hc
  refine ⟨_, fun i => pt_val (rdE_ok i) (he i), h HI Cn Cx _ Wx σ F H tk st (fun x s' v F' H' c e sv => ?_) hx hc⟩
  obtain ⟨r, st'⟩ := sv.fz
  exact ⟨x, r, hq x s' F' H' c e st'⟩
/-- f(..) is not None, as a test -/
theorem xtr_notN {a : Expr} {p1 pos : Pos} {j : Nat} {W : (Option α → S → Prop) → (Exn → S → Prop) → Prop} (h : XER M C O Γ s a (fz (pO ra)) W) : XTR M C O Γ s (.Compare a [.IsNot] [.Constant .none j p1] pos) (fun k kx => W (fun x s1 => k x.isSome s1) kx) := by
  intro HI Cn Cx Q Wx σ F H tk st hq hx hc
  refine ⟨_, fun i => pt_cmpR (op_notN (X := M.X i)) (rdE_ok i) pe_non rfl, ?_⟩
  refine h HI _ Cx _ Wx σ F H tk st (fun x s' v F' H' c e sv => ?_) hx hc
  obtain ⟨r, st'⟩ := sv.fz
  refine ⟨rfl, x.isSome, ?_, hq x.isSome s' F' H' c e st'⟩
  show V.bl (!decide (v = .non)) = V.bl x.isSome
  cases x with
  | none => rw [show v = .non from r]; rfl
  | some z => rw [decide_eq_false r.1]; rfl
/-- where a resource is only looked at -/
theorem xr_peekR {O1 : Addr → S1 → Res} {r1 : RP S1} {a : Addr} {get : S → S1} {put : S → S1 → S} {e : Expr} {wd : S1 → (β → Prop) → (Exn → Prop) → Prop} (i : Nat) (foc : Foc O (O1 a) get put) (hz : ∀ st F h F', (O1 a st).p F h → Same F F' → (∀ p ∈ h, F' p.1 = some p.2) → r1.r st (.ref a) F')
    (hΓ : Γ[i]? = some (some (fz pA a))) (hp : Pk K Γ Δ) (hi : i < Δ.length := by decide) (tu : TupR rb) (h : ∀ st, XER M C (fun _ : Unit => emp) (Δ.set i (some (fz r1 st))) () e (fz rb) (fun k kx => wd st (fun x => k x ()) (fun x => kx x ()))) :
    XER M C O Γ s e (fz rb) (fun k kx => wd (get s) (fun x => k x s) (fun x => kx x s)) := by
  intro HI Cn Cx Q Wx σ F H tk st hq hx hc
  obtain ⟨h1, h2, sa, so, ok⟩ := st
  obtain ⟨g1, g2, pm, o1, back⟩ := foc.split so
  have okp : Ok F ((h1 ++ g1) ++ g2) HI H := ok.perm (by rw [List.append_assoc]; exact List.Perm.append_left _ pm)
  obtain ⟨k1, e1, m1⟩ := frA_ok okp.hide
  obtain ⟨v0, ev, r0⟩ := sa.get hΓ
  have r0 : v0 = .ref a := r0
  subst r0
  have sa1 : Sat Δ σ (frA F (h1 ++ g1)) [] := hp.sat e1 sa fun p hp => m1 p (List.mem_append_left _ hp)
  have sa2 := sa1.put0 hi ev (hz _ F g1 _ o1 e1 fun p hp => m1 p (List.mem_append_right _ hp))
  refine h (get s) (Sm.hide HI g2) (fun x _ => Cn x s) (fun x _ => Cx x s) Q Wx σ (frA F (h1 ++ g1)) H tk ⟨[], [], sa2, rfl, k1⟩ (fun x s' v F' H' c e2 sv => ?_) (fun ex s' cls d F' H' c e2 q st' => ?_) hc
  · obtain ⟨hv, l1, l2, ⟨hv0, rv⟩, _, _, ok'⟩ := sv
    have bk := okp.back e2 ok'
    have st2 : Stt O HI Γ s σ F H' := ⟨h1, h2, sa, so, bk.perm (by rw [List.append_assoc]; exact List.Perm.append_left _ pm.symm)⟩
    obtain ⟨bs, b1, b2⟩ := tu _ _ _ rv
    obtain ⟨F3, e3, st3, m3⟩ := st2.grow (bs := bs) fun b hb => (b1 b hb).imp fun o q => ⟨ok'.fz _ _ q.1, q.2⟩
    refine hq x s v F3 H' c e3 (st3.val (b2 F3 fun b hb => ?_))
    obtain ⟨o, q, _⟩ := b1 b hb
    rw [m3 b hb, q]; exact ok'.fz _ _ q
  · obtain ⟨l1, l2, _, _, ok'⟩ := st'
    have bk := okp.back e2 ok'
    have st2 : Stt O HI Γ s σ F H' := ⟨h1, h2, sa, so, bk.perm (by rw [List.append_assoc]; exact List.Perm.append_left _ pm.symm)⟩
    obtain ⟨bs, b1, b2⟩ := exR_loose q
    obtain ⟨F3, e3, st3, m3⟩ := st2.grow (bs := bs) fun b hb => (b1 b hb).imp fun o q => ⟨ok'.fz _ _ q.1, q.2⟩
    refine hx ex s cls d F3 H' c e3 (b2 F3 fun b hb => ?_) st3
    obtain ⟨o, q, _⟩ := b1 b hb
    rw [m3 b hb, q]; exact ok'.fz _ _ q
end
end Sm

set_option Elab.async false
set_option linter.all false
set_option maxRecDepth 100000
set_option maxHeartbeats 4000000
/-! refusals with a field: made, raised, caught, looked at -/
namespace Sm
open PySem PySem.Spec PyProof.Rows L2
/-! ### an exception that is being made -/
inductive XIn (α : Type) | raw | full (y : α)
def resX {α : Type} (Cl : Addr) (f : Str) (r : RP α) (a : Addr) : XIn α → Res
  | .raw => ⟨fun _ h => h = [(a, exo a Cl none)], fun _ q => q⟩
  | .full y => ⟨fun F h => ∃ dx v, h = [(a, exo a Cl (some dx)), (dx, exd dx [(f, v)])] ∧ r.r y v F, fun e ⟨dx, v, h1, h2⟩ => ⟨dx, v, h1, r.mono e h2⟩⟩
/-- the base's __init__, by its class -/
structure BaseI (K : PySem.W.Frag) (B : Addr) : Prop where
  ga : PySem.W.specialIn K (.ref B) "__getattribute__" = some (some (.builtin "type.__getattribute__"))
  rd : PySem.W.readsIn K B (.type "type") = true
  fi : PySem.W.findCls K (.ref B) (.type "type") "__init__" = some (.val (.builtin "ValueError.__init__"))
section
variable {X : Cx} {e : Expr} {es : List Expr} {ta : TA} {p1 p2 pos : Pos} {B : Addr} {x : Str}
/-- Base.__init__(self, ..) -/
theorem pe_binit {pl : Sem Bool} (hg : Gl X x) (hm : X.mg x = some (.ref B)) (T0 : BaseI X.K B) (ha : PA X (e :: es) ta)
    (hc : eval (.Call (.Attribute (.Name x p1) "__init__" p2) (e :: es) [] pos) X.env = (do
      let ov ← eval (.Name x p1) X.env
      standAt p2.atName
      let (f, first) ← holding [ov] (getMethod ov "__init__" pl)
      callWith pos f first (backTo pos (starEach (e :: es) X.env)) (backToKw pos (keywordEach [] X.env))))
    (he : starEach (e :: es) X.env = (false, eval e X.env) :: starEach es X.env) (hpl : (backTo pos (starEach es X.env)).any (·.1) = false) (hdb : (x == ("__debug__" : Str)) = false) :
    PE X (.Call (.Attribute (.Name x p1) "__init__" p2) (e :: es) [] pos) (tVeI X.K ta) := by
  refine ⟨fun pins s σ H Q I h => ?_⟩
  refine PySem.W.methodCall_KW (ld_glob I hg hm ?_ hdb) hc
  refine PySem.W.method_cls I.kIn T0.ga (PySem.W.cls_value I.kIn T0.rd T0.fi rfl ?_)
  show wpAny _ _ (callWith pos (Value.builtin "ValueError.__init__") [] (backTo pos (starEach (e :: es) X.env)) []) _ _ _
  refine PyProof.Rows.callWith_method1 (thn (ha.run pos pins _ σ H _ (I.tok _) h) fun us s1 ⟨vs, H1, I1, r1, a, C, ws, ev, hl, T, ea, q⟩ => ?_) he hpl
  subst ev
  cases r1 with
  | @cons _ u0 _ ur ra rw' =>
    obtain rfl : u0 = Value.ref a := ra
    refine oinit_ok T I1 ea ?_ fun s' J => ⟨.non, H1, J, rfl, q⟩
    rw [← Paired.length rw', sizeLine_eq]
    omega
end
section
variable {P : Program} {w : World} {K : PySem.W.Frag} {mg : Str → Option Value} {base : Heap} {N : List Str} {sc : Scope} {fn : Str → Bool} {k : Nat}
variable {M : Fm P w K mg base N sc fn k}
variable {S S1 S2 : Type} {O : S → Res} {Γ Δ : Asrt} {s : S} {α β γ ρ : Type} {ra : RP α} {rb : RP β} {rc : RP γ} {A : ρ → VA} {C : ExA}
section
variable {HI F0 : Hp} {D : Ends} {e : Expr} {pos cp p0 p1 p2 : Pos} {rest : List Stmt} {Cl B a : Addr} {f x x0 : Str} {i : Nat}
/-- Base.__init__(self, text) -/
theorem xs_xinit {we : (Text → XIn α → Prop) → Prop} {Pk : Prop} {st0 : XIn α} (T : OexC K Cl) (T0 : BaseI K B) (hm : mg x0 = some (.ref B)) (hΓ : Γ[i]? = some (some (fz pA a))) (he : XE M (resX Cl f ra a) Γ st0 e (fz pT) we) (hk : XSs M (resX Cl f ra a) HI F0 Γ .raw rest D Pk)
    (hg : GlN sc x0 := by rfl) (hN : N[i]? = some x := by rfl) (hv : Vis sc x := by first | exact Or.inl rfl | exact Or.inr (Or.inl rfl) | exact Or.inr (Or.inr rfl)) (hd : (x == ("__debug__" : Str)) = false := by decide) (hcd : (x == ("__classdict__" : Str)) = false := by decide) (hdb : (x0 == ("__debug__" : Str)) = false := by decide)
    (hs1 : NoStar (.Name x p1) := by intro _ _; rfl) (hs2 : NoStar e := by intro _ _; rfl) (hc : ∀ env, ∃ pl : Sem Bool, eval (.Call (.Attribute (.Name x0 p0) "__init__" p2) [.Name x p1, e] [] cp) env = (do
      let ov ← eval (.Name x0 p0) env
      standAt p2.atName
      let (f, first) ← holding [ov] (getMethod ov "__init__" pl)
      callWith cp f first (backTo cp (starEach [.Name x p1, e] env)) (backToKw cp (keywordEach [] env))) := by intro _; exact ⟨_, rfl⟩)
    (hpl : ∀ env, (backTo cp (starEach [e] env)).any (·.1) = false := by intro _; rfl) (hs : ∀ j, swapsWith (.Call (.Attribute (.Name x0 p0) "__init__" p2) [.Name x p1, e] [] cp) none pos.line (M.X j).env = pure false := by intro _; rfl) :
    XSs M (resX Cl f ra a) HI F0 Γ st0 (.Expr (.Call (.Attribute (.Name x0 p0) "__init__" p2) [.Name x p1, e] [] cp) pos :: rest) D (we fun _ s1 => s1 = .raw ∧ Pk) := by
  intro σ F H e0 st hp
  refine ⟨tSeq (tDrop (tVeI K (tCons (tVar i) (tCons (rdE M e) tNil)))) (rdSs M rest), fun j => pss_cons (ps_expr (by
    obtain ⟨pl, q⟩ := hc (M.X j).env
    have h := pe_binit (X := M.X j) (Gl.of hg j) (by rw [M.mgl]; exact hm) (by rw [M.kf]; exact T0) (pa_cons (pe_nameO (M := M) (pos := p1) hN hv hd hcd j) (pa_cons (rdE_ok j) pa_nil (hs2 _ _)) (hs1 _ _)) q (hs1 _ _) (hpl _) hdb
    rw [M.kf j] at h; exact h) (hs j)) (rdSs_ok j), ?_⟩
  obtain ⟨v, ev, r⟩ := st.slot hΓ
  have r : v = .ref a := r
  subst r
  refine ⟨_, ev, he HI _ _ σ F H st (fun t s1 u F1 H1 c1 e1 sv => ?_) hp⟩
  obtain ⟨es1, c1⟩ := c1
  subst es1
  have st1 := sv.drop
  obtain ⟨g1, g2, eg, ok, _⟩ := st1.res foc_id
  have eg : g1 = [(a, exo a Cl none)] := eg
  subst eg
  exact ⟨a, Cl, [u], rfl, by show 1 ≤ 1000; decide, T, (ok.own _ List.mem_cons_self).1, hk σ F1 H1 (e0.trans e1) st1 c1⟩
/-- self.f = e -/
theorem xs_xset {we : (α → XIn α → Prop) → Prop} {Pk : α → Prop} {st0 : XIn α} (T : OexC K Cl) (hno : PySem.W.findIn K (.ref Cl) f = some none) (hΓ : Γ[i]? = some (some (fz pA a))) (he : XE M (resX Cl f ra a) Γ st0 e (fz ra) we) (hk : ∀ y, XSs M (resX Cl f ra a) HI F0 Γ (.full y) rest D (Pk y))
    (hN : N[i]? = some x := by rfl) (hv : Vis sc x := by first | exact Or.inl rfl | exact Or.inr (Or.inl rfl) | exact Or.inr (Or.inr rfl)) (hd : (x == ("__debug__" : Str)) = false := by decide) (hcd : (x == ("__classdict__" : Str)) = false := by decide)
    (hs : ∀ j, swapsWith e (some (.Attribute (.Name x p1) f p2)) pos.line (M.X j).env = pure false := by intro _; rfl) :
    XSs M (resX Cl f ra a) HI F0 Γ st0 (.Assign [.Attribute (.Name x p1) f p2] e pos :: rest) D (we fun y s1 => s1 = .raw ∧ Pk y) := by
  intro σ F H e0 st hp
  refine ⟨tSeq (tOst K f (tVar i) (rdE M e)) (rdSs M rest), fun j => pss_cons (by have h := ps_ost (pos := pos) (p' := p2) (f := f) (pe_nameO (M := M) (pos := p1) hN hv hd hcd j) (rdE_ok (M := M) j) (hs j); rw [M.kf j] at h; exact h) (rdSs_ok j), ?_⟩
  refine he HI _ _ σ F H st (fun y s1 u F1 H1 c1 e1 sv => ?_) hp
  obtain ⟨es1, c1⟩ := c1
  subst es1
  obtain ⟨ry, st1⟩ := sv.fz
  obtain ⟨v, ev, r⟩ := st1.slot hΓ
  have r : v = .ref a := r
  subst r
  obtain ⟨h1, h2, sa, so, ok⟩ := st1
  have so : h2 = [(a, exo a Cl none)] := so
  subst so
  have okp : Ok F1 ((a, exo a Cl none) :: h1) HI H1 := ok.perm List.perm_append_comm
  refine ⟨_, ev, a, Cl, rfl, T, hno, .inl ⟨(okp.own _ List.mem_cons_self).1, fun dx nx ne => ?_⟩⟩
  have ok2 : Ok F1 ((dx, exd dx [(f, u)]) :: (a, exo a Cl none) :: h1) HI (upd H1 dx (exd dx [(f, u)])) := okp.newO nx
  have ok3 : Ok F1 ((a, exo a Cl none) :: (dx, exd dx [(f, u)]) :: h1) HI (upd H1 dx (exd dx [(f, u)])) := ok2.perm (List.Perm.swap ..)
  have ok4 := ok3.set (o' := exo a Cl (some dx))
  refine hk y σ F1 _ (e0.trans e1) ⟨h1, [(a, exo a Cl (some dx)), (dx, exd dx [(f, u)])], sa, ⟨dx, u, rfl, ry⟩, ok4.perm ?_⟩ c1
  exact List.perm_append_comm (l₁ := [(a, exo a Cl (some dx)), (dx, exd dx [(f, u)])])
end
structure HasI (P : Program) (w : World) (K : PySem.W.Frag) (mg : Str → Option Value) (base : Heap) (x : Str) (Cl : Addr) (j : Nat) (ps : List Str) (sp : Sp) : Prop where
  ex : ∃ f fd, mg x = some (.ref Cl) ∧ OexC K Cl ∧ PySem.W.findIn K (.ref Cl) "__init__" = some (some (.ref f)) ∧ PySem.W.typeIn K (.ref f) = some (.type "function") ∧ Binds K fd ps [] ∧ FnOk P w K mg base CX0 j f fd ps sp
open Classical in
/-- all that stands, the tuples and what is locked apart -/
noncomputable def keepF (H : Hp) : Hp := fun b => if ∃ o, H b = some o ∧ ¬ NT o then H b else none
open Classical in
noncomputable def keepH (H : Hp) : Hp := fun b => if ∃ o, H b = some o ∧ NT o then H b else none
theorem keepF_some {H : Hp} {b : Addr} {o : HO} (h : keepF H b = some o) : H b = some o ∧ ¬ NT o := by
  unfold keepF at h
  split at h
  · rename_i q
    obtain ⟨u, e, n⟩ := q
    rw [e] at h; cases h
    exact ⟨e, n⟩
  · cases h
theorem keepH_some {H : Hp} {b : Addr} {o : HO} (h : keepH H b = some o) : H b = some o ∧ NT o := by
  unfold keepH at h
  split at h
  · rename_i q
    obtain ⟨u, e, n⟩ := q
    rw [e] at h; cases h
    exact ⟨e, n⟩
  · cases h
theorem keep_none {H : Hp} {b : Addr} (h1 : keepF H b = none) (h2 : keepH H b = none) : H b = none := by
  cases q : H b with
  | none => rfl
  | some o =>
    by_cases n : NT o
    · unfold keepH at h2
      rw [if_pos ⟨o, q, n⟩, q] at h2; cases h2
    · unfold keepF at h1
      rw [if_pos ⟨o, q, n⟩, q] at h1; cases h1
theorem keep_ok {H : Hp} {a : Addr} {o : HO} (na : H a = none) (ho : NT o := by trivial) : Ok (keepF H) [(a, o)] (keepH H) (upd H a o) := by
  have ne : ∀ {b : Addr} {u : HO}, H b = some u → b ≠ a := fun {b u} q z => by rw [z, na] at q; cases q
  refine ⟨fun b u q => ?_, fun p hp => ?_, by simp, fun b u q => ?_, fun p hp => ?_, fun b u q => (keepH_some q).2⟩
  · obtain ⟨e, _⟩ := keepF_some q
    rw [upd_ne (ne e)]; exact e
  · rw [List.mem_singleton.mp hp]
    refine ⟨upd_same, ?_, ?_⟩
    · cases q : keepF H a with
      | none => rfl
      | some u => rw [(keepF_some q).1] at na; cases na
    · cases q : keepH H a with
      | none => rfl
      | some u => rw [(keepH_some q).1] at na; cases na
  · obtain ⟨e, n⟩ := keepH_some q
    refine ⟨by rw [upd_ne (ne e)]; exact e, ?_⟩
    cases z : keepF H b with
    | none => rfl
    | some v =>
      obtain ⟨e2, n2⟩ := keepF_some z
      rw [e] at e2; cases e2
      exact absurd n n2
  · rw [List.mem_singleton.mp hp]; exact ho
/-- more is there; it is frozen -/
theorem Stt.more {HI F H H' : Hp} {σ : L2.St} {d : Addr} {o : HO} (h : Stt O HI Γ s σ F H) (e : Same H H') (nd : H d = none) (hd : H' d = some o) : Same F (upd F d o) ∧ Stt O HI Γ s σ (upd F d o) H' := by
  obtain ⟨h1, h2, sa, so, ok⟩ := h
  obtain ⟨nF, nI, nh⟩ := ok.free nd
  have eF : Same F (upd F d o) := same_upd nF
  refine ⟨eF, h1, h2, sa.mono eF, (O s).mono eF so, fun b u q => ?_, fun p hp => ?_, ok.nd, fun b u q => ?_, ok.nt, ok.hnt⟩
  · by_cases hb : b = d
    · subst hb; rw [upd_same] at q; cases q; exact hd
    · rw [upd_ne hb] at q; exact e _ _ (ok.fz _ _ q)
  · obtain ⟨a1, a2, a3⟩ := ok.own p hp
    have hb : p.1 ≠ d := fun z => nh (List.mem_map.mpr ⟨p, hp, z⟩)
    exact ⟨e _ _ a1, by rw [upd_ne hb]; exact a2, a3⟩
  · obtain ⟨a1, a2⟩ := ok.hid b u q
    have hb : b ≠ d := fun z => by rw [z, nI] at q; cases q
    exact ⟨e _ _ a1, by rw [upd_ne hb]; exact a2⟩
/-- what an __init__ of ours leaves -/
theorem init_run {Cl : Addr} {f : Str} {m : α × Unit → XIn α → (Unit → XIn α → Prop) → Prop} (fl : FlatR ra) {H1 : Hp} {a : Addr} (na : H1 a = none) {y : α} {v : V} {F1 : Hp} (ry : ra.r y v F1) {Cn : Unit → XIn α → Prop} (hm : m (y, ()) .raw Cn) {Q : VK} {E : XK}
    (hq : ∀ z, Cn () (.full z) → ∀ H2 d u, Same H1 H2 → H1 d = none → d ≠ a → H2 a = some (exo a Cl (some d)) → H2 d = some (exd d [(f, u)]) → (∀ F, ra.r z u F) → Q .non H2) (hf : ∀ r i, Cn r i → ∃ z, i = .full z) :
    SpF Addr (fun ad (x : α × Unit) => [fz pA ad, fz ra x.1]) (fun ad => resX Cl f ra ad) (fz pN) m [.ref a, v] (upd H1 a (exo a Cl none)) Q E := by
  refine ⟨a, (y, ()), .raw, keepF H1, keepH H1, [(a, exo a Cl none)], ⟨⟨rfl, rfl⟩, ⟨rfl, fl _ _ _ _ ry⟩, trivial⟩, rfl, keep_ok na, Cn, fun r i c v' F' hv h2' H' e ⟨ehv, rv⟩ o ok => ?_, hm⟩
  obtain ⟨z, rfl⟩ := hf r i c
  obtain ⟨dx, u, eh, ru⟩ := o
  subst ehv eh
  have rv : v' = .non := rv
  subst rv
  rw [List.nil_append] at ok
  have o1 := ok.own _ List.mem_cons_self
  have o2 := ok.own (dx, exd dx [(f, u)]) (List.mem_cons_of_mem _ List.mem_cons_self)
  have nd := ok.nd
  have ndx : H1 dx = none := keep_none (by
    cases q : keepF H1 dx with
    | none => rfl
    | some w => have := e _ _ q; rw [o2.2.1] at this; cases this) o2.2.2
  refine hq z c H' dx u (fun b w q => ?_) ndx (fun w => ?_) o1.1 o2.1 (fun F => fl _ _ _ _ ru)
  · by_cases n : NT w
    · refine (ok.hid b w ?_).1
      unfold keepH
      rw [if_pos ⟨w, q, n⟩]; exact q
    · refine ok.fz b w (e b w ?_)
      unfold keepF
      rw [if_pos ⟨w, q, n⟩]; exact q
  · rw [List.map_cons, List.nodup_cons] at nd
    exact nd.1 (by rw [← w]; simp)
/-- raise X(e), X with an __init__ of ours -/
theorem xs_raiseI {HI F0 : Hp} {D : Ends} {Γr : Asrt} {kx : Exn → S → Prop} {rest : List Stmt} {x f : Str} {j : Nat} {ps : List Str} {p pos pos' : Pos} {e : Expr} {Cl : Addr} {con : α → Exn} {m : α × Unit → XIn α → (Unit → XIn α → Prop) → Prop} {we : (α → S → Prop) → Prop} (R : Rz M C O HI F0 Γr kx) (hl : Le Γ Γr)
    (h : HasI P w K mg base x Cl j ps (SpF Addr (fun ad (x : α × Unit) => [fz pA ad, fz ra x.1]) (fun ad => resX Cl f ra ad) (fz pN) m)) (fl : FlatR ra) (hex : ∀ y d u F, (∀ F, ra.r y u F) → F d = some (.xd [(f, u)]) → exR C (con y) (.ref Cl) (some d) F) (he : XE M O Γ s e (fz ra) we)
    (hj : j + 1 ≤ k := by first | decide | omega) (hg : GlN sc x := by rfl) (hdb : (x == ("__debug__" : Str)) = false := by decide) (hs : NoStar e := by intro _ _; rfl) (hpl : ∀ env, (backTo pos (starEach [] env)).any (·.1) = false := by intro _; rfl) :
    XSs M O HI F0 Γ s (.Raise (some (.Call (.Name x p) [e] [] pos)) none pos' :: rest) D (we fun y s1 => m (y, ()) .raw fun _ i => ∃ z, i = .full z ∧ kx (con z) s1) := by
  intro σ F H e0 st hp
  obtain ⟨Wx, tk, hxx⟩ := R
  obtain ⟨fI, fd, gC, T, iC, tI, bi, ok⟩ := h.ex
  refine ⟨_, fun i => pss_cons (ps_raise (M.calm i) (tk i) (pmk_oex (X := M.X i) (CX := CX0) (k := j) (fI := fI) (fd := fd) (ps := ps) (sp := SpF Addr (fun ad (x : α × Unit) => [fz pA ad, fz ra x.1]) (fun ad => resX Cl f ra ad) (fz pN) m) (ds := []) (dvs := []) (by rw [M.kf]; exact T) (by rw [M.kf]; exact iC) (by rw [M.kf]; exact tI) (by rw [M.prog, M.wd, M.kf, M.mgl, M.bas]; exact ok) ((M.room i).mono hj) (by rw [M.kf]; exact bi) .nil pass0 (Gl.of hg i) (by rw [M.mgl]; exact gC) (pa_cons (rdE_ok i) pa_nil (hs _ _)) hdb (hs _ _) (hpl _))) pss_never, ?_⟩
  refine he HI _ _ σ F H st (fun y s1 v F1 H1 c1 e1 sv => ?_) hp
  obtain ⟨ry, st1⟩ := sv.fz
  refine ⟨by show 1 ≤ 1000; decide, fun a na => ?_⟩
  refine init_run fl na ry c1 (fun z c H2 d u sm nd da q1 q2 ru => ?_) (fun r i ⟨z, e, _⟩ => ⟨z, e⟩)
  obtain ⟨z', ez, c⟩ := c
  cases ez
  refine ⟨rfl, d, _, q1, q2, nd, ?_⟩
  have big : Same H1 (upd (del H2 a) d (.xd [(f, u)])) := fun b w q => by
    rw [upd_ne (ne_of_none q nd), del_ne (ne_of_none q na)]; exact sm _ _ q
  obtain ⟨eF, st2⟩ := st1.more big nd upd_same
  exact hxx (con z) s1 _ _ σ _ _ c (e0.trans (e1.trans eF)) (hex z d u _ ru upd_same) (st2.le hl)
theorem Sat.blank {F : Hp} {t : Option V} : ∀ {Γ : Asrt} {σ : L2.St} {h : HL} {i : Nat}, Sat Γ σ F h → Γ[i]? = some none → Sat Γ (σ.set i t) F h
  | none :: Γ, _ :: σ, _, 0, q, _ => q
  | some B :: Γ, _ :: σ, _, 0, _, e => by cases e
  | none :: Γ, _ :: σ, _, i + 1, q, e => Sat.blank (Γ := Γ) (σ := σ) q (by simpa using e)
  | some B :: Γ, _ :: σ, _, i + 1, ⟨v, h1, h2, a, b, c, d⟩, e => ⟨v, h1, h2, a, b, c, Sat.blank d (by simpa using e)⟩
  | [], [], _, _, _, e => by cases e
/-! ### try: body, except X as n: y = n -/
structure TopF (M : Fm P w K mg base N sc fn k) : Prop where
  stk : ∀ i, (M.X i).stack = (M.X i).env :: (M.X i).outer
  frm : ∀ i, (M.X i).env.frame = some (M.X i).env.locals
  ex : ∀ i, (M.X i).ex = []
def Fm.tr (M : Fm P w K mg base N sc fn k) (W : WX) : Fm P w K mg base N sc fn k where
  ι := { j : M.ι × List (Addr × Obj) × (Value → Shared → Prop) // Takes ((M.X j.1).tr j.2.1 j.2.2) W ∧ PassesOwn (model (M.X j.1).prog (M.X j.1).w) (M.X j.1).A (M.X j.1).env j.2.2 }
  X := fun j => (M.X j.1.1).tr j.1.2.1 j.1.2.2
  prog := fun j => M.prog j.1.1
  wd := fun j => M.wd j.1.1
  kf := fun j => M.kf j.1.1
  mgl := fun j => M.mgl j.1.1
  bas := fun j => M.bas j.1.1
  nn := fun j => M.nn j.1.1
  scp := fun j => M.scp j.1.1
  calm := fun j => M.calm j.1.1
  room := fun j => M.room j.1.1
  pass := fun j => j.2.2
  fnl := fun j => M.fnl j.1.1
  nd := M.nd
theorem xs_tryK {HI F0 : Hp} {nx rt bk ct} {body rest : List Stmt} {cx n y : Str} {i iy : Nat} {np p1 p2 p3 pos pos' : Pos} {CF : Addr} {Pb : (γ → S → Prop) → S → Prop} {Pk : γ → S → Prop} (Γj : γ → Asrt) (gx : Exn → γ) (top : TopF M) (hcx : mg cx = some (.ref CF)) (hyes : ∀ ex cls d F, exR C ex cls d F → PySem.W.exmOne K cls (.ref CF) = some true)
    (hΓn : Γ[i]? = some none) (hj : ∀ z, (Γj z)[i]? = some none) (hl : ∀ ex, Le (Γ.set iy (some (fz (pO (pEx C)) (some ex)))) (Γj (gx ex)))
    (hb : ∀ (W : WX) kj, Rz (M.tr W) C O HI F0 Γ (fun ex s' => kj (gx ex) s') → XSs (M.tr W) O HI F0 Γ s body { nx := nxJ O HI F0 Γj kj, rt := rt, bk := bk, ct := ct } (Pb kj s))
    (hk : ∀ z s', XSs M O HI F0 (Γj z) s' rest { nx := nx, rt := rt, bk := bk, ct := ct } (Pk z s'))
    (hN : N[i]? = some n := by rfl) (hNy : N[iy]? = some y := by rfl) (hln : sc.names.lookup n = some .local := by rfl) (hly : sc.names.lookup y = some .local := by rfl) (hne : i ≠ iy := by decide) (hΓ : Γ.length = N.length := by rfl) (hgc : GlN sc cx := by rfl) (hdc : (cx == ("__debug__" : Str)) = false := by decide) (hd : (n == ("__debug__" : Str)) = false := by decide) (hcd : (n == ("__classdict__" : Str)) = false := by decide)
    (hs : ∀ env, swapsWithSole [.Name y p1] (.Name n p2) p3.line env = pure false := by intro _; rfl) (hw : ∀ env, swappedStores [.Name y p1] (.Name n p2) env = pure none := by intro _; rfl) (h1 : ∀ env, (assignEach [.Name y p1] env).map (·.2) = [assign (.Name y p1) env] := by intro _; rfl) :
    XSs M O HI F0 Γ s (.Try body [.ExceptHandler (some (.Name cx np)) (some n) [.Assign [.Name y p1] (.Name n p2) p3] pos'] [] [] pos :: rest) { nx := nx, rt := rt, bk := bk, ct := ct } (jn (fun kj => Pb kj s) Pk) := by
  intro σ F H e0 st hp
  refine seqJ (R := nxJ O HI F0 Γj Pk) (fun σ' H' ⟨z, s', F', p, e, st'⟩ => hk z s' σ' F' H' e st' p) ?_
  refine ⟨fun D σ H => rdSs (M.tr (wKp K (.ref CF) i (fun _ => tSeq (tAsg (tVar i) (gName iy)) tNext) D)) body D σ H, fun q => ?_, ?_⟩
  · have hh := ps_tryK (X := M.X q) (x := cx) (n := n) (c := .ref CF) (i := i) (body := body) (b₀ := .Assign [.Name y p1] (.Name n p2) p3) (suite := []) (np := np) (pos := pos) (pos' := pos') (tb := fun W => rdSs (M.tr W) body) (ts := fun _ => tSeq (tAsg (tVar i) (gName iy)) tNext)
      (top.stk q) (top.frm q) (top.ex q) (by rw [M.nn]; exact M.nd) (by rw [M.nn]; exact hN) (by show (M.X q).env.scope.names.lookup n = _; rw [M.scp]; exact hln) ⟨Gl.of hgc q, hdc, .inl (by rw [M.mgl]; exact hcx)⟩
      (fun W pn xe tk ps => rdSs_ok (M := M.tr W) ⟨(q, pn, xe), tk, ps⟩)
      (fun a pn => pss_cons (ps_asg (pe_var (X := (M.X q).suite a pn) (by show (M.X q).N[i]? = _; rw [M.nn]; exact hN) (by show Vis (M.X q).env.scope n; rw [M.scp]; exact .inl hln) hd hcd) (pg_name (X := (M.X q).suite a pn) (by show (M.X q).N.Nodup; rw [M.nn]; exact M.nd) (by show (M.X q).N[iy]? = _; rw [M.nn]; exact hNy) (by show Loc (M.X q).env.scope y; rw [M.scp]; exact .inl hly) (.inr (by show (M.X q).env.scope.names.lookup y = _; rw [M.scp]; exact hly))) (hs _) (hw _) (h1 _)) pss_nil)
    rw [M.kf q] at hh
    exact hh
  · have li : i < σ.length := by rw [← st.len]; exact (List.getElem?_eq_some_iff.mp hΓn).1
    refine hb _ Pk ⟨_, fun j => j.2.1, fun ex s' cls d σ' F' H' c e1 q st' => ⟨hyes ex cls d F' q, fun a na => ?_⟩⟩ σ F H e0 st hp
    have li' : i < σ'.length := by rw [← st'.len]; exact (List.getElem?_eq_some_iff.mp hΓn).1
    refine ⟨.ref a, List.getElem?_set_self li', ?_⟩
    obtain ⟨e2, st2⟩ := st'.newF (o := exK cls d a) na
    refine ⟨gx ex, s', _, c, e1.trans e2, ?_⟩
    have st3 : SttV O HI Γ s' σ' (upd F' a (exK cls d a)) (upd H' a (exK cls d a)) (fz (pO (pEx C)) (some ex)) (.ref a) := st2.val ⟨(by intro z; cases z), a, cls, d, rfl, upd_same, q.mono e2⟩
    have liy : iy < Γ.length := by rw [hΓ]; exact (List.getElem?_eq_some_iff.mp hNy).1
    have st4 := Stt.put st3 liy
    obtain ⟨h1, h2, sa, so, ok⟩ := st4.le (hl ex)
    have sb := Sat.blank (t := none) sa (hj (gx ex))
    have es : ((σ'.set i (some (.ref a))).set iy (some (.ref a))).set i none = (σ'.set iy (some (.ref a))).set i none := by
      rw [List.set_comm _ _ hne, List.set_set]
    show Stt O HI (Γj (gx ex)) s' (((σ'.set i (some (.ref a))).set iy (some (.ref a))).set i none) _ _
    rw [es]
    exact ⟨h1, h2, sb, so, ok⟩
end
end Sm

set_option Elab.async false
set_option linter.all false
set_option maxRecDepth 100000
set_option maxHeartbeats 4000000
/-! a refusal is looked at: its kind, its field; methods that may raise -/
namespace Sm
open PySem PySem.Spec PyProof.Rows L2
section
variable {X : Cx}
/-- isinstance(e, c), e an exception that is kept -/
def rIsX (K : PySem.W.Frag) : List V → Hp → VK → Prop := fun xs H Q => ∃ (a : Addr) (c : V) (cv : Value) (D : Addr) (d : Option Addr) (b : Bool), xs = [.ref a, c] ∧ ClsV c cv ∧ ExcC K D ∧ H a = some (exK (.ref D) d a) ∧ (∀ dd, d = some dd → ∃ fs, H dd = some (.xd fs)) ∧ PySem.W.kitOne K (.ref D) cv = some b ∧ Q (.bl b) H
def rIsXT (K : PySem.W.Frag) : List V → Hp → VK → Prop := fun xs H Q => ∃ (a tp : Addr) (cs : List V) (us : List Value) (D : Addr) (d : Option Addr) (b : Bool), xs = [.ref a, .ref tp] ∧ H tp = some (.tup cs) ∧ Paired ClsV cs us ∧ ExcC K D ∧ H a = some (exK (.ref D) d a) ∧ (∀ dd, d = some dd → ∃ fs, H dd = some (.xd fs)) ∧ PySem.W.kitAny K (.ref D) us = some b ∧ Q (.bl b) H
theorem exK_inst {pins : List (Addr × Obj)} {σ : L2.St} {H : Hp} {s : Shared} {a D : Addr} {d : Option Addr} (I : Inv X pins σ H s) (e : H a = some (exK (.ref D) d a)) (hd : ∀ dd, d = some dd → ∃ fs, H dd = some (.xd fs)) : ∃ (oe : Obj) (od : Option Obj), PySem.W.InstAt s.heap a oe D od := by
  obtain ⟨oe, vs, g, z, dt⟩ := exK_get I.hok e
  have nc : PySem.W.notCls oe = true := by unfold PySem.W.notCls; rw [dt] <;> rfl
  cases d with
  | none => exact ⟨oe, none, g, z.1, nc, by rw [z.2]; trivial⟩
  | some dd =>
    obtain ⟨fs, hx⟩ := hd dd rfl
    obtain ⟨mA, hns, _⟩ := (show ObjOk X.prog X.w H s.heap dd (.xd fs) from I.hok dd _ hx)
    obtain ⟨od, ho, _⟩ := lookIn_ns hns
    exact ⟨oe, some od, g, z.1, nc, by rw [z.2]; exact ho⟩
theorem clsIn_some {K : PySem.W.Frag} {D : Addr} (h : PySem.W.hasDictIn K D = true) : (PySem.W.clsIn K D).isSome = true := by
  obtain ⟨cd, hc, _⟩ := PySem.W.any_some h
  rw [hc]; rfl
theorem call_isX : CallR X (.builtin "isinstance") (rIsX X.K) := by
  intro pins s σ H xs us Q I r h
  obtain ⟨a, c, cv, D, d, b, rfl, k, C, e, hd, kt, q⟩ := h
  obtain ⟨u1, u2, rfl, r1, r2⟩ := vals2 r
  obtain rfl : u1 = Value.ref a := r1
  have e2 := k.eq r2
  subst e2
  obtain ⟨oe, od, J⟩ := exK_inst I e hd
  exact PySem.W.kia_one (PySem.W.kitx_exc (clsIn_some C.hd) C.hg C.hk C.hs C.ha C.hn C.ht C.hm) I.kIn J kt (fun z => nomatch z) fun tk => ⟨.bl b, H, I.tok tk, rfl, q⟩
theorem call_isXT : CallR X (.builtin "isinstance") (rIsXT X.K) := by
  intro pins s σ H xs us Q I r h
  obtain ⟨a, tp, cs, ws, D, d, b, rfl, hT, k, C, e, hd, kt, q⟩ := h
  obtain ⟨u1, u2, rfl, r1, r2⟩ := vals2 r
  obtain rfl : u1 = Value.ref a := r1
  obtain rfl : u2 = Value.ref tp := r2
  obtain ⟨oe, od, J⟩ := exK_inst I e hd
  obtain ⟨_, its, rv, o, h1, h2, n, h3⟩ := (show ObjOk X.prog X.w H s.heap tp (.tup cs) from I.hok tp _ hT)
  have e3 := ClsV.all k rv
  subst e3
  obtain ⟨oc, od2, dt, sl⟩ := o
  simp only at h2 h3
  subst h2 h3
  exact PySem.W.kia_tup (PySem.W.kitx_exc (clsIn_some C.hd) C.hg C.hk C.hs C.ha C.hn C.ht C.hm) I.kIn J h1 kt (fun z => nomatch z) fun tk => ⟨.bl b, H, I.tok tk, rfl, q⟩
/-- e.f, e an exception that is kept -/
def tXg (Cl : Addr) (f : Str) (te : TE) : TE := fun σ H Q => te σ H fun x H1 => ∃ (a dd : Addr) (fs : List (Str × V)) (v : V), x = .ref a ∧ H1 a = some (exK (.ref Cl) (some dd) a) ∧ H1 dd = some (.xd fs) ∧ fs.lookup f = some v ∧ Q v H1
theorem pe_xg {Cl : Addr} {e : Expr} {te : TE} {pos : Pos} {n : Str} (T : XfC X.K Cl) (hno : PySem.W.findIn X.K (.ref Cl) n = some none) (he : PE X e te) (hb : attributeBase e n X.env (eval e X.env) = eval e X.env) : PE X (.Attribute e n pos) (tXg Cl n te) := by
  refine ⟨fun pins s σ H Q I h => attr_of hb (thn (he.run pins s σ H _ I h) fun u s1 hh => ?_)⟩
  obtain ⟨x, H1, I1, rx, a, dd, fs, v, ex, ea, ed, l, q⟩ := hh
  subst ex
  obtain rfl : u = Value.ref a := rx
  obtain ⟨oe, vs, g, z, dt⟩ := exK_get I1.hok ea
  obtain ⟨mA, hns, hr⟩ := (show ObjOk X.prog X.w H1 s1.heap dd (.xd fs) from I1.hok dd _ ed)
  obtain ⟨od, ho, hl⟩ := lookIn_ns hns
  obtain ⟨w, hw, rw_⟩ := RelO.some_of (v := v) (o := mA n) (by rw [← l]; exact hr n)
  have J : PySem.W.InstAt s1.heap a oe Cl (some od) := ⟨g, z.1, by unfold PySem.W.notCls; rw [dt] <;> rfl, by rw [z.2]; exact ho⟩
  exact HandSPX.exc_get I1.kIn J T.ga T.gg T.exC (PySem.W.findObj_own T.hdC hno rfl (by rw [hl, hw])) (handed_of rw_) ⟨v, H1, I1.tok _, rw_, q⟩
end
def clsOf (C : ExA) : Exn → Addr | .set _ => C.set | .corner _ => C.corner | .parting => C.parting | .ask => C.ask
def isSet : Exn → Bool | .set _ => true | _ => false
def isCorner : Exn → Bool | .corner _ => true | _ => false
def isParting : Exn → Bool | .parting => true | _ => false
def isAsk : Exn → Bool | .ask => true | _ => false
def isAny : Exn → Bool | _ => true
theorem exR_cls {C : ExA} {e : Exn} {cls : Value} {d : Option Addr} {F : Hp} (q : exR C e cls d F) : cls = .ref (clsOf C e) ∧ ∀ dd, d = some dd → ∃ fs, F dd = some (.xd fs) := by
  cases e with
  | set n =>
    obtain ⟨a, dd, v, b, c, e⟩ := q
    exact ⟨a, fun d' h => by rw [b] at h; cases h; exact ⟨_, c⟩⟩
  | corner n =>
    obtain ⟨a, dd, v, b, c, e⟩ := q
    exact ⟨a, fun d' h => by rw [b] at h; cases h; exact ⟨_, c⟩⟩
  | parting => exact ⟨q.1, fun d' h => by rw [q.2] at h; cases h⟩
  | ask => exact ⟨q.1, fun d' h => by rw [q.2] at h; cases h⟩
theorem nn_Ex {C : ExA} : ∀ x F, ¬ (pEx C).r x .non F := fun x F ⟨a, cls, d, e, _⟩ => by cases e
/-- what the written part says of the refusals' classes -/
structure ExF (K : PySem.W.Frag) (C : ExA) (CF : Addr) : Prop where
  cl : ∀ ex, ExcC K (clsOf C ex)
  kS : ∀ ex, PySem.W.kitOne K (.ref (clsOf C ex)) (.ref C.set) = some (isSet ex)
  kC : ∀ ex, PySem.W.kitOne K (.ref (clsOf C ex)) (.ref C.corner) = some (isCorner ex)
  kP : ∀ ex, PySem.W.kitOne K (.ref (clsOf C ex)) (.ref C.parting) = some (isParting ex)
  kA : ∀ ex, PySem.W.kitOne K (.ref (clsOf C ex)) (.ref C.ask) = some (isAsk ex)
  kF : ∀ ex, PySem.W.kitOne K (.ref (clsOf C ex)) (.ref CF) = some (isAny ex)
  kV : ∀ ex, PySem.W.kitOne K (.ref (clsOf C ex)) (.type "ValueError") = some (isAny ex)
  em : ∀ ex, PySem.W.exmOne K (.ref (clsOf C ex)) (.ref CF) = some true
theorem ExF.yes {K : PySem.W.Frag} {C : ExA} {CF : Addr} (T : ExF K C CF) : ∀ ex cls d F, exR C ex cls d F → PySem.W.exmOne K cls (.ref CF) = some true := fun ex cls d F q => by rw [(exR_cls q).1]; exact T.em ex
section
variable {P : Program} {w : World} {K : PySem.W.Frag} {mg : Str → Option Value} {base : Heap} {N : List Str} {sc : Scope} {fn : Str → Bool} {k : Nat}
variable {M : Fm P w K mg base N sc fn k}
variable {S S1 S2 : Type} {O : S → Res} {Γ Δ : Asrt} {s : S} {α β γ ρ : Type} {ra : RP α} {rb : RP β} {rc : RP γ} {A : ρ → VA} {C : ExA} {CF : Addr}
theorem xe_isE {x : Str} {c : V} {cv : Value} {isB : Exn → Bool} {e : Expr} {p p' pos : Pos} {we : (Exn → S → Prop) → Prop} (T : ExF K C CF) (hk : ∀ ex, PySem.W.kitOne K (.ref (clsOf C ex)) cv = some (isB ex)) (hc : ClsV c cv) (hn : ∀ i, PE (M.X i) (.Name x p') (tC c)) (hm : mg "isinstance" = none) (he : XE M O Γ s e (fz (pEx C)) we)
    (hg : GlN sc "isinstance" := by rfl) (hs : NoStar e := by intro _ _; rfl) : XE M O Γ s (.Call (.Name "isinstance" p) [e, .Name x p'] [] pos) (fz pB) (fun k => we fun ex s1 => k (isB ex) s1) := by
  intro HI Cn Q σ F H st hq hcc
  refine ⟨_, fun i => pe_callB (by have h := call_isX (X := M.X i); rw [M.kf i] at h; exact h) (Gl.of hg i) (M.none hm i) b_isinstance (pa_cons (rdE_ok i) (pa_cons (hn i) pa_nil rfl) (hs _ _)) (by decide) (by decide) (hs _ _) rfl, ?_⟩
  refine he HI _ _ σ F H st (fun ex s1 v F1 H1 c1 e1 sv => ?_) hcc
  obtain ⟨⟨a, cls, d, ev, eF, q⟩, st1⟩ := sv.fz
  obtain ⟨ec, hd⟩ := exR_cls q
  subst ec ev
  exact ⟨a, c, cv, clsOf C ex, d, isB ex, rfl, hc, T.cl ex, st1.ok _ _ eF, fun dd h => (hd dd h).imp fun fs q => st1.ok _ _ q, hk ex, hq _ s1 _ F1 H1 c1 e1 (st1.val rfl)⟩
theorem ex_own {x : Str} {D : Addr} {p : Pos} (hm : mg x = some (.ref D)) (hg : GlN sc x := by rfl) (hd : (x == ("__debug__" : Str)) = false := by decide) : ∀ i, PE (M.X i) (.Name x p) (tC (.ref D)) := fun i => pe_glob (Gl.of hg i) (by rw [M.mgl]; exact hm) rfl hd
theorem ex_blt {x : Str} {T : String} {p : Pos} (hm : mg x = none) (hv : bootBuiltins x = some (.type T)) (hg : GlN sc x := by rfl) (hn : x ≠ "__name__" := by decide) (hd : (x == ("__debug__" : Str)) = false := by decide) : ∀ i, PE (M.X i) (.Name x p) (tC (.ty T)) := fun i => pe_bltn (v := .ty T) (Gl.of hg i) (M.none hm i) hv rfl hn hd
/-- e.place -/
theorem xe_exPlace {e : Expr} {pos : Pos} {we : (Exn → S → Prop) → Prop} (T : XfC K C.set) (hno : PySem.W.findIn K (.ref C.set) "place" = some none) (he : XE M O Γ s e (fz (pEx C)) we) (hb : ∀ env, attributeBase e "place" env (eval e env) = eval e env := by intro _; rfl) :
    XE M O Γ s (.Attribute e "place" pos) (fz pI) (fun k => we fun ex s1 => ∃ n, ex = .set n ∧ k n s1) := by
  intro HI Cn Q σ F H st hq hc
  refine ⟨tXg C.set "place" (rdE M e), fun i => pe_xg (by rw [M.kf]; exact T) (by rw [M.kf]; exact hno) (rdE_ok i) (hb _), he HI _ _ σ F H st (fun ex s1 v F1 H1 c1 e1 sv => ?_) hc⟩
  obtain ⟨⟨a, cls, d, ev, eF, q⟩, st1⟩ := sv.fz
  obtain ⟨n, rfl, c1⟩ := c1
  obtain ⟨ec, dd, v, ed, ex, eu⟩ := q
  subst ec ev ed eu
  exact ⟨a, dd, _, _, rfl, st1.ok _ _ eF, st1.ok _ _ ex, by simp [List.lookup], hq n s1 _ F1 H1 c1 e1 (st1.val rfl)⟩
/-- e.corner -/
theorem xe_exCorner {e : Expr} {pos : Pos} {we : (Exn → S → Prop) → Prop} (T : XfC K C.corner) (hno : PySem.W.findIn K (.ref C.corner) "corner" = some none) (he : XE M O Γ s e (fz (pEx C)) we) (hb : ∀ env, attributeBase e "corner" env (eval e env) = eval e env := by intro _; rfl) :
    XE M O Γ s (.Attribute e "corner" pos) (fz pT) (fun k => we fun ex s1 => ∃ t, ex = .corner t ∧ k t s1) := by
  intro HI Cn Q σ F H st hq hc
  refine ⟨tXg C.corner "corner" (rdE M e), fun i => pe_xg (by rw [M.kf]; exact T) (by rw [M.kf]; exact hno) (rdE_ok i) (hb _), he HI _ _ σ F H st (fun ex s1 v F1 H1 c1 e1 sv => ?_) hc⟩
  obtain ⟨⟨a, cls, d, ev, eF, q⟩, st1⟩ := sv.fz
  obtain ⟨n, rfl, c1⟩ := c1
  obtain ⟨ec, dd, v, ed, ex, eu, ok⟩ := q
  subst ec ev ed eu
  exact ⟨a, dd, _, _, rfl, st1.ok _ _ eF, st1.ok _ _ ex, by simp [List.lookup], hq n s1 _ F1 H1 c1 e1 (st1.val ⟨rfl, ok⟩)⟩
end
end Sm

set_option Elab.async false
set_option linter.all false
set_option maxRecDepth 100000
set_option maxHeartbeats 4000000
/-! a refusal made by hand; what it writes -/
namespace Sm
open PySem PySem.Spec PyProof.Rows L2
/-- at a: an exception of the class at Cl, made with what stands at t -/
def exS (Cl a t : Addr) : HO := .ext fun h => ∃ (oe : Obj) (vs : Array Value), h.get? a = some oe ∧ oe.cls = .ref Cl ∧ oe.data = .fields vs ∧ vs[0]? = some (.ref t)
theorem exS_get {P : Program} {w : World} {H : Hp} {h : Heap} {Cl a t : Addr} (hok : HOk P w H h) (e : H a = some (exS Cl a t)) : ∃ (oe : Obj) (vs : Array Value), h.get? a = some oe ∧ oe.cls = .ref Cl ∧ oe.data = .fields vs ∧ vs[0]? = some (.ref t) := by
  have q : ObjOk P w H h a (.ext fun h => ∃ (oe : Obj) (vs : Array Value), h.get? a = some oe ∧ oe.cls = .ref Cl ∧ oe.data = .fields vs ∧ vs[0]? = some (.ref t)) := hok a _ e
  exact q.1
section
variable {X : Cx}
/-- X(text), as a value -/
def tMkS (Cl : Addr) (te : TE) : TE := fun σ H Q => te σ H fun x H1 => ∃ m, [x] = [V.str m] ∧ ∀ t a, H1 t = none → H1 a = none → a ≠ t → Q (.ref a) (upd (upd H1 t (.tup [.str m])) a (exS Cl a t))
theorem pe_mkS {Cl : Addr} {bmB : List Value} {B newId initId : String} {x : Str} {e : Expr} {te : TE} {p pos : Pos} (F : ExcBaseFacts B newId initId bmB) (q : PySem.W.excIn X.K Cl bmB newId = true) (gC : X.mg x = some (.ref Cl)) (kC : PySem.W.keepIn X.K (.ref Cl) = true) (hg : Gl X x)
    (he : PE X e te) (hs : starEach [e] X.env = (false, eval e X.env) :: starEach [] X.env) (hdb : (x == ("__debug__" : Str)) = false) (hnx : X.ex = []) : PE X (.Call (.Name x p) [e] [] pos) (tMkS Cl te) := by
  refine ⟨fun pins s σ H Q I h => ?_⟩
  refine wpAny_Call_Name_kw (ld_glob I hg gC ?_ hdb)
  have ha : PA X [e] (tCons te tNil) := pa_cons he pa_nil hs
  refine PySem.W.callWith_K (h₀ := X.base) I.ok.mod.kin kC (thn (ha.run pos pins s σ H (fun vs H1 => ∃ m, vs = [V.str m] ∧ ∀ t a, H1 t = none → H1 a = none → a ≠ t → Q (.ref a) (upd (upd H1 t (.tup [.str m])) a (exS Cl a t))) I h) fun us s1 hh => ?_) hs (by rfl)
  obtain ⟨vs, H1, I1, r1, m, ev, q1⟩ := hh
  subst ev
  refine ⟨I1.kIn, ?_⟩
  obtain ⟨u, rfl, ru⟩ := r1.one
  show wpAny _ _ (call (.ref Cl) [u]) _ _ _
  obtain ⟨bm, N, nm, qn, bs, hdct, sn, sub, ab, col, dd, k0, k1, k2, k3, k5, mN, hC, hN, hni, T⟩ := exc_obj I1.kIn q
  refine wpAny_call_exc_subT F T hC hN hni (fun h' a hm => ?_) (by show 1 ≤ sizeLine; rw [sizeLine_eq]; omega)
  obtain ⟨t, ga, nt, gt⟩ := hm.there
  have na : H1 a = none := I1.hok.gone hm.new
  have nt1 : H1 t = none := I1.hok.gone nt
  have ne : a ≠ t := fun z => by
    subst z
    rw [ga] at gt
    cases gt
  have J1 : Inv X pins σ (upd H1 t (.tup [.str m])) { s1 with heap := h' } := I1.laidN (t' := s1.toks) hm.keeps nt nt1 ⟨by show 1 ≤ sizeLine; decide, [u], .cons ru .nil, _, gt, rfl, _, rfl⟩
  have na2 : upd H1 t (.tup [.str m]) a = none := by rw [upd_ne ne]; exact na
  have J2 : Inv X pins σ (upd (upd H1 t (.tup [.str m])) a (exS Cl a t)) { s1 with heap := h' } := by
    refine tell_of J1 na2 ?_ (fun p hp => ?_) ?_ (fun y c hc z => ?_) ?_
    · cases z : X.s_0.heap.get? a with
      | none => rfl
      | some o =>
        exfalso
        obtain ⟨o', z'⟩ := I1.base.there a o z (by rw [hnx]; exact fun w => nomatch w)
        rw [hm.new] at z'; cases z'
    · intro z
      have := (I1.pin p hp).1
      rw [z, hm.new] at this; cases this
    · intro z
      obtain ⟨m0, hn, _⟩ := I1.loc
      obtain ⟨o, _, _, ho, _⟩ := hn
      rw [z, hm.new] at ho; cases ho
    · obtain ⟨v, o, ho, _⟩ := I1.cell y c hc
      rw [z, hm.new] at ho; cases ho
    · exact ⟨⟨_, _, ga, rfl, rfl, rfl⟩, ⟨_, ga⟩, fun _ _ ⟨o, v, r, t2⟩ k => ⟨o, v, k o r, t2⟩⟩
  exact ⟨.ref a, _, J2, rfl, q1 t a nt1 na ne⟩
/-- str(e), e made with a text -/
def rStrX (K : PySem.W.Frag) : List V → Hp → VK → Prop := fun xs H Q => ∃ (a t Cl : Addr) (m : Str), xs = [.ref a] ∧ H a = some (exS Cl a t) ∧ H t = some (.tup [.str m]) ∧ PySem.W.findIn K (.ref Cl) "__str__" = some (some (.builtin "BaseException.__str__")) ∧ PySem.W.subIn K (.ref Cl) (.type "BaseException") = some true ∧ Q (.str m) H
theorem call_strX (hu : X.A.units + 2 < cLine) : CallR X (.type "str") (rStrX X.K) := by
  intro pins s σ H xs us Q I r h
  obtain ⟨a, t, Cl, m, rfl, hA, hT, hs, hB, q⟩ := h
  obtain ⟨u, rfl, ru⟩ := r.one
  obtain rfl : u = Value.ref a := ru
  obtain ⟨oe, vs, g, gc, gd, g0⟩ := exS_get I.hok hA
  obtain ⟨_, its, rv, o, h1, h2, n, h3⟩ := (show ObjOk X.prog X.w H s.heap t (.tup [.str m]) from I.hok t _ hT)
  obtain ⟨w, rfl, tk, rfl⟩ := rv.one
  exact PySem.P.str_of_C_one hu ⟨I.kIn, oe, vs, g, gc, gd, g0⟩ ⟨o, n, h1, h2, h3⟩ hs hB ⟨.str m, H, I, ⟨tk, rfl⟩, q⟩
/-- what was told of by a word of one's own is told of otherwise -/
theorem retell {pins : List (Addr × Obj)} {σ : L2.St} {H : Hp} {s : Shared} {a : Addr} {o : HO} {φ : Heap → Prop} (I : Inv X pins σ H s) (hφ : H a = some (.ext φ)) (new : ObjOk X.prog X.w (upd H a o) s.heap a o) : Inv X pins σ (upd H a o) s := by
  have neN : ∀ {b : Addr}, H b = none → b ≠ a := fun {b} q z => by rw [z, hφ] at q; cases q
  have neT : ∀ {b : Addr} {xs : List V}, H b = some (.tup xs) → b ≠ a := fun {b xs} q z => by rw [z, hφ] at q; cases q
  have neO : ∀ {b c : Addr}, H b = some (.own c) → b ≠ a := fun {b c} q z => by rw [z, hφ] at q; cases q
  have neF : ∀ {b : Addr} {u : Obj} {v : HO}, H b = some (.frz u v) → b ≠ a := fun {b u v} q z => by rw [z, hφ] at q; cases q
  have neB : ∀ {b : Addr} {ps : Array Value}, H b = some (.tbl ps) → b ≠ a := fun {b ps} q z => by rw [z, hφ] at q; cases q
  refine { ok := I.ok, os := I.os, bare := I.bare, loc := I.loc, cell := I.cell, len := I.len, base := ?_, free := ?_, freeC := ?_, pin := ?_, hok := ?_ }
  · exact { keep := I.base.keep, slot := I.base.slot, there := I.base.there,
            free := fun b u q n hx => by have := I.base.free b u q n hx; rw [upd_ne (neN this)]; exact this,
            tups := fun b xs q => by have := I.base.tups b xs q; rw [upd_ne (neT this)]; exact this,
            frzs := fun b u v q => by have := I.base.frzs b u v q; rw [upd_ne (neF this)]; exact this,
            tbls := fun b ps q => by obtain ⟨m, z⟩ := I.base.tbls b ps q; exact ⟨m, by rw [upd_ne (neB z)]; exact z⟩ }
  · rw [upd_ne (neN I.free)]; exact I.free
  · intro x c q; have := I.freeC x c q; rw [upd_ne (neN this)]; exact this
  · intro p q
    obtain ⟨p1, p2, p3⟩ := I.pin p q
    exact ⟨p1, by rw [upd_ne (neN p2)]; exact p2, p3⟩
  · intro b u e
    by_cases hb : b = a
    · subst hb; rw [upd_same] at e; cases e; exact new
    · rw [upd_ne hb] at e
      exact (I.hok b u e).stay (fun c v _ q => q) (fun c q => by rw [upd_ne (neO q)]; exact q) fun c xs q => by rw [upd_ne (neT q)]; exact q
/-- X(e, ..), X with an __init__ of ours, as a value -/
def tMkV (Cl : Addr) (sp : Sp) (ta : TA) : TE := fun σ H Q => ta σ H fun vs H1 => vs.length ≤ 1000 ∧ ∀ a, H1 a = none → sp (.ref a :: vs) (upd H1 a (exo a Cl none))
  (fun v H2 => v = .non ∧ ∃ (d : Addr) (fs : List (Str × V)), H2 a = some (exo a Cl (some d)) ∧ H2 d = some (exd d fs) ∧ d ≠ a ∧ Q (.ref a) (upd (upd H2 d (.xd fs)) a (exK (.ref Cl) (some d) a))) (fun _ _ _ => False)
theorem pe_mkV {x : Str} {Cl fI : Addr} {k : Nat} {fd : FuncData} {ps : List Str} {sp : Sp} {e : Expr} {es : List Expr} {ta : TA} {p pos : Pos} (T : OexC X.K Cl) (iC : PySem.W.findIn X.K (.ref Cl) "__init__" = some (some (.ref fI))) (tI : PySem.W.typeIn X.K (.ref fI) = some (.type "function"))
    (F1 : FnOk X.prog X.w X.K X.mg X.base CX0 k fI fd ps sp) (hr : Room (k + 1) X.A) (hb : Binds X.K fd ps []) (hg : Gl X x) (hm : X.mg x = some (.ref Cl)) (ha : PA X (e :: es) ta)
    (hdb : (x == ("__debug__" : Str)) = false) (he : starEach (e :: es) X.env = (false, eval e X.env) :: starEach es X.env) (hpl : (backTo pos (starEach es X.env)).any (·.1) = false) :
    PE X (.Call (.Name x p) (e :: es) [] pos) (tMkV Cl sp ta) := by
  refine ⟨fun pins s σ H Q I h => ?_⟩
  obtain ⟨nm, q, N, bs, bm, sn, sub, ab, col, dd, k0, k1, k2, k3, k5, hC, hbm⟩ := T.cls
  refine wpAny_Call_Name_kw (ld_glob I hg hm ?_ hdb)
  refine PySem.W.callWith_K (h₀ := X.base) I.ok.mod.kin T.kC (thn (ha.run pos pins s σ H _ I h) fun us s1 ⟨vs, H1, I1, r1, hz, q1⟩ => ⟨I1.kIn, ?_⟩) he hpl
  show wpAny _ _ (call (.ref Cl) us) _ _ _
  obtain ⟨hp, g, dr, tk, os⟩ := s1
  have big : hp.objs.size ≤ hp.objs.size + 1 := Nat.le_succ _
  have hn : H1 (hp.objs.size + 1) = none := I1.hok.fresh big
  have hq := q1 (hp.objs.size + 1) hn
  have kk : ∀ b o, hp.get? b = some o → ((hp.push (PySem.W.kdv_tup us)).push (PySem.HandSPX.excO Cl hp.objs.size)).get? b = some o := fun b o e => Heap.get?_push_of_some _ (Heap.get?_push_of_some _ e)
  have got : ((hp.push (PySem.W.kdv_tup us)).push (PySem.HandSPX.excO Cl hp.objs.size)).get? (hp.objs.size + 1) = some (PySem.HandSPX.excO Cl hp.objs.size) := by heap_get
  have I2 : Inv X pins σ (upd H1 (hp.objs.size + 1) (exo (hp.objs.size + 1) Cl none)) ⟨(hp.push (PySem.W.kdv_tup us)).push (PySem.HandSPX.excO Cl hp.objs.size), g, dr, tk, os⟩ :=
    I1.laid (t' := tk) (a := hp.objs.size + 1) (o := exo (hp.objs.size + 1) Cl none) (h' := (hp.push (PySem.W.kdv_tup us)).push (PySem.HandSPX.excO Cl hp.objs.size)) kk big (exo_ok got)
  have r2 : Vals (V.ref (hp.objs.size + 1) :: vs) (Value.ref (hp.objs.size + 1) :: us) := .cons rfl r1
  have hl : (Value.ref (hp.objs.size + 1) :: us ++ []).length = ps.length := by
    rw [List.append_nil]
    have e := r2.length
    rw [F1.len _ _ _ _ hq] at e
    exact e.symm
  have hus : us.length ≤ sizeLine := by
    rw [← Paired.length r1, sizeLine_eq]
    omega
  have bd := hb _ (Value.ref (hp.objs.size + 1) :: us) I2.kIn hl
  rw [List.append_nil] at bd
  refine wpAny_call (PySem.HandSPX.call_own F.excBase_ValueError (fun Y => PySem.HandSPX.refsVE_contains Y bm hbm) (I1.kIn _ _ hC) (PySem.W.looks_findIn I1.kIn iC) (fun self => PySem.W.bind_fn I1.kIn self tI) hus
    (codeAny_mono (F1.run _ X.stack _ _ ⟨Value.ref (hp.objs.size + 1) :: us, []⟩ (Value.ref (hp.objs.size + 1) :: us) _ _ (fun _ _ _ => False) (hr.make Cl us []) (I2.env0.make Cl us []) bd r2 hq) fun r s' hq' => ?_))
  cases r with
  | error er => exact pass0 pins σ _ _ er s' I2 hq'
  | ok fl =>
    cases fl with
    | ret u =>
      obtain ⟨v, H2, os2, bare2, un2, hok2, rv, ev, d, fs, ea, ed, da, q2⟩ := hq'
      subst ev
      have J : Inv X pins σ H2 s' := I2.call' (ch := []) os2 un2 hok2 bare2 (fun b z => absurd z (by simp))
      obtain ⟨t0, hoe⟩ := exo_at hok2 ea
      obtain ⟨mA, hns, rel⟩ := exd_at hok2 ed
      have J1 : Inv X pins σ (upd H2 d (.xd fs)) s' := retell J ed ⟨mA, hns, rel⟩
      have ea1 : upd H2 d (.xd fs) (hp.objs.size + 1) = some (exo (hp.objs.size + 1) Cl (some d)) := by rw [upd_ne (Ne.symm da)]; exact ea
      have J2 : Inv X pins σ (upd (upd H2 d (.xd fs)) (hp.objs.size + 1) (exK (.ref Cl) (some d) (hp.objs.size + 1))) s' := retell J1 ea1 (exK_mk hoe ⟨rfl, rfl⟩ rfl)
      exact ⟨rv, .ref (hp.objs.size + 1), _, J2, rfl, q2⟩
    | next => exact False.elim hq'
    | brk => exact False.elim hq'
    | cont => exact False.elim hq'
end
section
variable {P : Program} {w : World} {K : PySem.W.Frag} {mg : Str → Option Value} {base : Heap} {N : List Str} {sc : Scope} {fn : Str → Bool} {k : Nat}
variable {M : Fm P w K mg base N sc fn k}
variable {S S1 S2 : Type} {O : S → Res} {Γ Δ : Asrt} {s : S} {α β γ ρ : Type} {ra : RP α} {rb : RP β} {rc : RP γ} {A : ρ → VA} {C : ExA}
theorem xe_strT {p pos : Pos} {e : Expr} {wa : (Text → S → Prop) → Prop} (hm : mg "str" = none) (ha : XE M O Γ s e (fz pT) wa) (hg : GlN sc "str" := by rfl) (hs : NoStar e := by intro _ _; rfl) : XE M O Γ s (.Call (.Name "str" p) [e] [] pos) (fz pT) (fun k => wa fun x s1 => k x s1) :=
  have o : Op1 (fun u => (fun (xs : List V) (H : Hp) (Q : VK) => ∃ a, xs = [V.str a] ∧ Q (.str a) H) [u]) pT (fz pT) (fun (x : Text) (k : Text → Prop) => k x) := fun O HI Γ s σ F H x u Cn Q st rx hq hc => ⟨⟨x.toArray⟩, by rw [rx.1], hq x _ F H hc (Same.refl _) (st.val ⟨rfl, rx.2⟩)⟩
  xe_ct1 b_str (fun i => SkE.call_str_str) o hm hg ha (by decide) (by decide) hs
/-- str(X(e)) -/
theorem xe_strX {x : Str} {Cl : Addr} {bmB : List Value} {p p' pos pos' : Pos} {e : Expr} {we : (Text → S → Prop) → Prop} (top : TopF M) (hm : mg "str" = none) (q : PySem.W.excIn K Cl bmB "ValueError.__new__" = true) (eb : bmB = [.type "ValueError", .type "Exception", .type "BaseException", .type "object"])
    (gC : mg x = some (.ref Cl)) (kC : PySem.W.keepIn K (.ref Cl) = true) (h1 : PySem.W.findIn K (.ref Cl) "__str__" = some (some (.builtin "BaseException.__str__"))) (h2 : PySem.W.subIn K (.ref Cl) (.type "BaseException") = some true) (he : XE M O Γ s e (fz pT) we)
    (hg : GlN sc "str" := by rfl) (hgx : GlN sc x := by rfl) (hs : NoStar e := by intro _ _; rfl) (hs2 : NoStar (.Call (.Name x p') [e] [] pos') := by intro _ _; rfl) (hdb : (x == ("__debug__" : Str)) = false := by decide) :
    XE M O Γ s (.Call (.Name "str" p) [.Call (.Name x p') [e] [] pos'] [] pos) (fz pT) (fun k => we fun t s1 => k t s1) := by
  subst eb
  intro HI Cn Q σ F H st hq hc
  refine ⟨_, fun i => pe_callTy (by have h := call_strX (X := M.X i) (by have := (M.room i).units; omega); rw [M.kf i] at h; exact h) (Gl.of hg i) (M.none hm i) b_str (pa_cons (pe_mkS PySem.F.excBase_ValueError (by rw [M.kf]; exact q) (by rw [M.mgl]; exact gC) (by rw [M.kf]; exact kC) (Gl.of hgx i) (rdE_ok i) (hs _ _) hdb (top.ex i)) pa_nil (hs2 _ _)) (by decide) (by decide) (hs2 _ _) rfl, ?_⟩
  refine he HI _ _ σ F H st (fun t s1 v F1 H1 c1 e1 sv => ?_) hc
  obtain ⟨⟨ev, okt⟩, st1⟩ := sv.fz
  subst ev
  refine ⟨⟨t.toArray⟩, rfl, fun tt a nt na ne => ?_⟩
  have na2 : upd H1 tt (.tup [V.str ⟨t.toArray⟩]) a = none := by rw [upd_ne ne]; exact na
  obtain ⟨e2, st2⟩ := st1.newF (o := .tup [V.str ⟨t.toArray⟩]) nt
  obtain ⟨e3, st3⟩ := st2.newF (o := exS Cl a tt) na2
  exact ⟨a, tt, Cl, ⟨t.toArray⟩, rfl, upd_same, by rw [upd_ne (Ne.symm ne)]; exact upd_same, h1, h2, hq t s1 _ _ _ c1 (e1.trans (e2.trans e3)) (st3.val ⟨rfl, okt⟩)⟩
/-- X(e), X with an __init__ of ours, as a value -/
theorem xe_mkI {x f : Str} {j : Nat} {ps : List Str} {p pos : Pos} {e : Expr} {Cl : Addr} {con : α → Exn} {m : α × Unit → XIn α → (Unit → XIn α → Prop) → Prop} {we : (α → S → Prop) → Prop}
    (h : HasI P w K mg base x Cl j ps (SpF Addr (fun ad (x : α × Unit) => [fz pA ad, fz ra x.1]) (fun ad => resX Cl f ra ad) (fz pN) m)) (fl : FlatR ra) (hex : ∀ y d u F, (∀ F, ra.r y u F) → F d = some (.xd [(f, u)]) → exR C (con y) (.ref Cl) (some d) F) (he : XE M O Γ s e (fz ra) we)
    (hj : j + 1 ≤ k := by first | decide | omega) (hg : GlN sc x := by rfl) (hdb : (x == ("__debug__" : Str)) = false := by decide) (hs : NoStar e := by intro _ _; rfl) (hpl : ∀ env, (backTo pos (starEach [] env)).any (·.1) = false := by intro _; rfl) :
    XE M O Γ s (.Call (.Name x p) [e] [] pos) (fz (pEx C)) (fun k => we fun y s1 => m (y, ()) .raw fun _ i => ∃ z, i = .full z ∧ k (con z) s1) := by
  intro HI Cn Q σ F H st hq hc
  obtain ⟨fI, fd, gC, T, iC, tI, bi, ok⟩ := h.ex
  refine ⟨_, fun i => pe_mkV (X := M.X i) (k := j) (fI := fI) (fd := fd) (ps := ps) (sp := SpF Addr (fun ad (x : α × Unit) => [fz pA ad, fz ra x.1]) (fun ad => resX Cl f ra ad) (fz pN) m) (by rw [M.kf]; exact T) (by rw [M.kf]; exact iC) (by rw [M.kf]; exact tI) (by rw [M.prog, M.wd, M.kf, M.mgl, M.bas]; exact ok) ((M.room i).mono hj) (by rw [M.kf]; exact bi) (Gl.of hg i) (by rw [M.mgl]; exact gC) (pa_cons (rdE_ok i) pa_nil (hs _ _)) hdb (hs _ _) (hpl _), ?_⟩
  refine he HI _ _ σ F H st (fun y s1 v F1 H1 c1 e1 sv => ?_) hc
  obtain ⟨ry, st1⟩ := sv.fz
  refine ⟨by show 1 ≤ 1000; decide, fun a na => ?_⟩
  refine init_run fl na ry c1 (fun z c H2 d u sm nd da q1 q2 ru => ?_) (fun r i ⟨z, e, _⟩ => ⟨z, e⟩)
  obtain ⟨z', ez, c⟩ := c
  cases ez
  refine ⟨rfl, d, _, q1, q2, da, ?_⟩
  obtain ⟨eF, st2⟩ := st1.newF (o := exK (.ref Cl) (some d) a) na
  have b2 : Same (upd H1 a (exK (.ref Cl) (some d) a)) (upd (upd H2 d (.xd [(f, u)])) a (exK (.ref Cl) (some d) a)) := fun b w q => by
    by_cases hb : b = a
    · subst hb; rw [upd_same] at q ⊢; exact q
    · rw [upd_ne hb] at q ⊢
      rw [upd_ne (ne_of_none q nd)]; exact sm _ _ q
  obtain ⟨eF2, st3⟩ := st2.more b2 (by rw [upd_ne da]; exact nd) (by rw [upd_ne da]; exact upd_same)
  refine hq (con z) s1 _ _ _ c (e1.trans (eF.trans eF2)) (st3.val ⟨a, .ref Cl, some d, rfl, by rw [upd_ne (Ne.symm da)]; exact upd_same, hex z d u _ ru upd_same⟩)
end
end Sm

set_option Elab.async false
set_option linter.all false
set_option maxRecDepth 100000
set_option maxHeartbeats 4000000
/-! the refusals' facts in one; sums of kinds told apart; defs that try -/
namespace Sm
open PySem PySem.Spec PyProof.Rows L2
abbrev veL : List Value := [.type "ValueError", .type "Exception", .type "BaseException", .type "object"]
/-- what the written part says of the refusals -/
structure EXS (K : PySem.W.Frag) (mg : Str → Option Value) (s c p a f : Addr) : Prop where
  F : ExF K ⟨s, c, p, a⟩ f
  gs : mg "NoSet" = some (.ref s)
  gc : mg "NoCorner" = some (.ref c)
  gp : mg "NoParting" = some (.ref p)
  ga : mg "NoAsk" = some (.ref a)
  gf : mg "FaceError" = some (.ref f)
  xs : XfC K s
  ns : PySem.W.findIn K (.ref s) "place" = some none
  xc : XfC K c
  nc : PySem.W.findIn K (.ref c) "corner" = some none
  os : OexC K s
  oc : OexC K c
  bi : BaseI K f
  qp : PySem.W.excIn K p veL "ValueError.__new__" = true
  qa : PySem.W.excIn K a veL "ValueError.__new__" = true
  kp : PySem.W.keepIn K (.ref p) = true
  ka : PySem.W.keepIn K (.ref a) = true
  bp : PySem.W.subIn K (.ref p) (.type "BaseException") = some true
  ba : PySem.W.subIn K (.ref a) (.type "BaseException") = some true
  tp : PySem.W.typeIn K (.ref p) = some (.type "type")
  ta : PySem.W.typeIn K (.ref a) = some (.type "type")
  sp : PySem.W.findIn K (.ref p) "__str__" = some (some (.builtin "BaseException.__str__"))
  sa : PySem.W.findIn K (.ref a) "__str__" = some (some (.builtin "BaseException.__str__"))
theorem hexS {s c p a : Addr} : ∀ (y : Int) (d : Addr) (u : V) (F : Hp), (∀ F, pI.r y u F) → F d = some (.xd [(("place" : Str), u)]) → exR ⟨s, c, p, a⟩ (.set y) (.ref s) (some d) F := fun y d u F q1 q2 => ⟨rfl, d, u, rfl, q2, q1 F⟩
theorem hexC {s c p a : Addr} : ∀ (y : Text) (d : Addr) (u : V) (F : Hp), (∀ F, pT.r y u F) → F d = some (.xd [(("corner" : Str), u)]) → exR ⟨s, c, p, a⟩ (.corner y) (.ref c) (some d) F := fun y d u F q1 q2 => ⟨rfl, d, u, rfl, q2, (q1 F).1, (q1 F).2⟩
theorem b_VE : bootBuiltins "ValueError" = some (.type "ValueError") := by decide +kernel
section
variable {K : PySem.W.Frag} {α β γ : Type} {ra : RP α} {rb : RP β} {rc : RP γ}
/-- two kinds that == never takes for one another -/
def Apart [DecidableEq α] [DecidableEq β] (D : Dat K ra) (E : Dat K rb) : Prop := ∀ x y, PyData.eqv (D.d x) (E.d y) = false ∧ PyData.eqv (E.d y) (D.d x) = false
def dS [DecidableEq α] [DecidableEq β] (D : Dat K ra) (E : Dat K rb) (ap : Apart D E) : Dat K (pS ra rb) := ⟨fun x => match x with | .inl a => D.d a | .inr b => E.d b, max D.n E.n,
  fun {x v F H} e h => by cases x with | inl a => exact D.dp e h | inr b => exact E.dp e h,
  fun x => by cases x with | inl a => exact Nat.le_trans (D.dep a) (Nat.le_max_left _ _) | inr b => exact Nat.le_trans (E.dep b) (Nat.le_max_right _ _),
  fun x y => by
    cases x with
    | inl a =>
      cases y with
      | inl b => simp only [D.eq]; rw [Bool.eq_iff_iff]; simp
      | inr b => simp [(ap a b).1]
    | inr a =>
      cases y with
      | inl b => simp [(ap b a).2]
      | inr b => simp only [E.eq]; rw [Bool.eq_iff_iff]; simp⟩
theorem ap_TI : Apart (dT (K := K)) (dI (K := K)) := fun x y => ⟨by simp [dT, dI, PyData.eqv], by simp [dT, dI, PyData.eqv]⟩
/-- ("set", 3), (bits, corners) -/
theorem ap_PP [DecidableEq α] [DecidableEq β] [DecidableEq γ] {δ : Type} [DecidableEq δ] {rd : RP δ} {D1 : Dat K ra} {D2 : Dat K rb} {E1 : Dat K rc} {E2 : Dat K rd} (h : Apart D1 E1) : Apart (dP D1 D2) (dP E1 E2) := fun x y => by
  obtain ⟨x1, x2⟩ := x
  obtain ⟨y1, y2⟩ := y
  constructor
  · show PyData.eqv (.tuple [D1.d x1, D2.d x2]) (.tuple [E1.d y1, E2.d y2]) = false
    simp [PyData.eqv, PyData.eqvAll, (h x1 y1).1]
  · show PyData.eqv (.tuple [E1.d y1, E2.d y2]) (.tuple [D1.d x1, D2.d x2]) = false
    simp [PyData.eqv, PyData.eqvAll, (h x1 y1).2]
/-- texts, a text and a number -/
theorem ap_UP [DecidableEq α] [DecidableEq β] [DecidableEq γ] {D : Dat K ra} {E1 : Dat K rb} {E2 : Dat K rc} (h : Apart D E2) : Apart (dU D) (dP E1 E2) := fun x y => by
  obtain ⟨y1, y2⟩ := y
  constructor
  · show PyData.eqv (.tuple (x.map D.d)) (.tuple [E1.d y1, E2.d y2]) = false
    match x with
    | [] => simp [PyData.eqv, PyData.eqvAll]
    | [a] => simp [PyData.eqv, PyData.eqvAll]
    | [a, b] => simp [PyData.eqv, PyData.eqvAll, (h b y2).1]
    | a :: b :: c :: r => simp [PyData.eqv, PyData.eqvAll]
  · show PyData.eqv (.tuple [E1.d y1, E2.d y2]) (.tuple (x.map D.d)) = false
    match x with
    | [] => simp [PyData.eqv, PyData.eqvAll]
    | [a] => simp [PyData.eqv, PyData.eqvAll]
    | [a, b] => simp [PyData.eqv, PyData.eqvAll, (h b y2).2]
    | a :: b :: c :: r => simp [PyData.eqv, PyData.eqvAll]
theorem ap_UL [DecidableEq α] [DecidableEq β] {D : Dat K ra} {E : Dat K rb} : Apart (dU D) (dL E) := fun x y => ⟨by show PyData.eqv (.tuple _) (.list _) = false; simp [PyData.eqv], by show PyData.eqv (.list _) (.tuple _) = false; simp [PyData.eqv]⟩
theorem ap_PL [DecidableEq α] [DecidableEq β] [DecidableEq γ] {D : Dat K ra} {D2 : Dat K rb} {E : Dat K rc} : Apart (dP D D2) (dL E) := fun x y => ⟨by show PyData.eqv (.tuple _) (.list _) = false; simp [PyData.eqv], by show PyData.eqv (.list _) (.tuple _) = false; simp [PyData.eqv]⟩
theorem ap_SL [DecidableEq α] [DecidableEq β] [DecidableEq γ] {D : Dat K ra} {E : Dat K rb} {G : Dat K rc} {ap : Apart D E} (h1 : Apart D G) (h2 : Apart E G) : Apart (dS D E ap) G := fun x y => by cases x with | inl a => exact h1 a y | inr b => exact h2 b y
theorem fl_I0 : FlatR pI := fun _ _ _ _ h => h
theorem fl_T0 : FlatR pT := fun _ _ _ _ h => h
end
section
variable {P : Program} {w : World} {K : PySem.W.Frag} {mg : Str → Option Value} {base : Heap} {N : List Str} {sc : Scope} {fn : Str → Bool} {k : Nat}
variable {M : Fm P w K mg base N sc fn k}
variable {S S1 S2 : Type} {O : S → Res} {Γ Δ : Asrt} {s : S} {α β γ δ ρ : Type} {ra : RP α} {rb : RP β} {rc : RP γ} {rd : RP δ} {A : ρ → VA} {C : ExA}
def fstS : (α × β) ⊕ (γ × δ) → α ⊕ γ | .inl x => .inl x.1 | .inr x => .inr x.1
/-- x[0], x one of two pairs -/
theorem xe_fstS {a : Expr} {j0 : Nat} {p0 pos : Pos} {wa : ((α × β) ⊕ (γ × δ) → S → Prop) → Prop} (ha : XE M O Γ s a (fz (pS (pP K ra rb) (pP K rc rd))) wa) : XE M O Γ s (.Subscript a (.Constant (.int 0) j0 p0) pos) (fz (pS ra rc)) (fun k => wa fun x s1 => k (fstS x) s1) := by
  intro HI Cn Q σ F H st hq hc
  refine ⟨_, fun i => pe_ix (by have h := ix_tup (X := M.X i); rw [M.kf i] at h; exact h) (rdE_ok i) (rdE_ok i) (by intro _ _; rfl), ?_⟩
  refine ha HI _ _ σ F H st (fun x s1 v F1 H1 c1 e1 sv1 => ?_) hc
  obtain ⟨hx, st1⟩ := sv1.fz
  refine xe_int (M := M) (O := O) (Γ := Γ) (s := s1) (i := 0) HI (fun z s2 => z = 0 ∧ s2 = s1) _ σ F1 H1 st1 (fun z s2 u F2 H2 c2 e2 sv2 => ?_) ⟨rfl, rfl⟩
  obtain ⟨ez, es⟩ := c2
  subst ez es
  obtain ⟨rz, st2⟩ := sv2.fz
  cases x with
  | inl x =>
    obtain ⟨t, u1, u2, ev, hs, r1, r2⟩ := hx
    exact ⟨t, [u1, u2], 0, u1, ev, rz, SqT.mono (e2.trans st2.ok) hs, rfl, hq _ s2 _ F2 _ c1 (e1.trans e2) (st2.val (ra.mono e2 r1))⟩
  | inr x =>
    obtain ⟨t, u1, u2, ev, hs, r1, r2⟩ := hx
    exact ⟨t, [u1, u2], 0, u1, ev, rz, SqT.mono (e2.trans st2.ok) hs, rfl, hq _ s2 _ F2 _ c1 (e1.trans e2) (st2.val (rc.mono e2 r1))⟩
theorem xr_some {e : Expr} {W : (α → S → Prop) → (Exn → S → Prop) → Prop} (h : XER M C O Γ s e (fz ra) W) (nn : ∀ x F, ¬ ra.r x .non F) : XER M C O Γ s e (fz (pO ra)) (fun k kx => W (fun x s' => k (some x) s') kx) := by
  intro HI Cn Cx Q Wx σ F H tk st hq hx hc
  refine h HI _ Cx Q Wx σ F H tk st (fun x s' v F' H' c e sv => ?_) hx hc
  obtain ⟨r, st'⟩ := sv.fz
  exact hq (some x) s' v F' H' c e (st'.val ⟨fun z => nn x F' (z ▸ r), r⟩)
/-- a def that tries -/
theorem fn_okTop {x qual : Str} {st : Stmt} {f : Addr} {fd : FuncData} {ps : List Str} {αs ρ ad : Type} {S : Type} {PA : ad → αs → List VA} {O : ad → S → Res} {A : ρ → VA} {m : αs → S → (ρ → S → Prop) → Prop} (F : Fun K x qual st f fd) (Sc : FnScope N ps (defScope st))
    (hlen : ∀ a x, (PA a x).length = ps.length)
    (body : ∀ (M : Fm P w K mg base N (defScope st) (fun _ => true) k) (a : ad) (x : αs) (s : S) (HI F0 : Hp) (R : ρ → S → Prop), TopF M → XSs M (O a) HI F0 ((PA a x).map some ++ List.replicate (N.length - ps.length) none) s (defBody st) { nx := fun _ H' => rtJ (O a) HI F0 A R .non H', rt := rtJ (O a) HI F0 A R, bk := fun _ _ => False, ct := fun _ _ => False } (m x s R)) :
    FnOk P w K mg base CX0 (k + 1) f fd ps (SpF ad PA O A m) := by
  refine F.ok Sc (fun vs H Q E h => ?_) (fun cdv A' outer s H vs Q E hr h => ?_)
  · obtain ⟨a, x, s, F, HI, h2, av, _⟩ := h
    rw [← av.length]; exact hlen a x
  · obtain ⟨a, x, s', F', HI, h2, av, ho, ok, C, hC, hm⟩ := h
    let M : Fm P w K mg base N (defScope st) (fun _ => true) k := { ι := Unit, X := fun _ => (cxOf CX0 P w K mg base N qual (defScope st) f cdv A' outer s H E).nox, prog := fun _ => rfl, wd := fun _ => rfl, kf := fun _ => rfl, mgl := fun _ => rfl, bas := fun _ => rfl, nn := fun _ => rfl, scp := fun _ => rfl, calm := fun _ => rfl, room := fun _ => hr, pass := fun _ => PassesOwn.never, fnl := fun _ _ _ => rfl, nd := Sc.nd }
    refine ⟨rdSs M (defBody st), rdSs_ok (M := M) (), ?_⟩
    have hl : (PA a x).length = vs.length := av.length
    have fin : ∀ v H', rtJ (O a) HI F' A C v H' → Q v H' := fun v H' ⟨y, s5, F5, r5, e5, hv, h1, h2, q1, q2, q3, q4⟩ => by
      have q2 : h1 = [] := q2
      subst q2
      exact hC y s5 r5 v F5 hv h2 H' e5 q1 q3 q4
    refine rdSs_mono (body M a x s' HI F' _ ⟨fun _ => rfl, fun _ => rfl, fun _ => rfl⟩ (L2.start N vs) F' H (Same.refl _) ⟨[], h2, ?_, ho, ok⟩ hm) (fun _ H' q => fin _ _ q) fin (fun _ _ q => q.elim) (fun _ _ q => q.elim)
    unfold L2.start
    rw [← hl, hlen a x]
    exact Sat.start _ av
end
end Sm

set_option Elab.async false
set_option linter.all false
set_option maxRecDepth 100000
set_option maxHeartbeats 4000000
namespace G
open PySem PySem.Spec PyProof.Rows L2 Sm
def topS (i : Nat) : Stmt := PySem.Challenge.pw_facesparted_k04_texts_of_no_sets.main.body.getD i (.Pass ⟨0, 0, 0, 0⟩)
abbrev s_NoSet___init__ : Stmt := inClass (topS 2) 0
abbrev s_NoCorner___init__ : Stmt := inClass (topS 3) 0
abbrev s_corners_of : Stmt := topS 8
abbrev s_read_set : Stmt := topS 9
abbrev s__law_mix : Stmt := topS 11
abbrev s__law_deck : Stmt := topS 12
abbrev s__law_next : Stmt := topS 13
abbrev s__law_bits : Stmt := topS 14
abbrev s__law_face : Stmt := topS 15
abbrev s__law_all : Stmt := topS 16
abbrev s__law_lies : Stmt := topS 17
abbrev s__law_set : Stmt := topS 18
abbrev s__law_kind : Stmt := topS 19
abbrev s__law_sign : Stmt := topS 20
abbrev s__law_spoilt : Stmt := topS 21
abbrev s__law_due : Stmt := topS 22
abbrev s__law_right : Stmt := topS 23
abbrev s_law : Stmt := topS 24
structure Bl (mg : Str → Option Value) : Prop where
  ValueError_ : mg "ValueError" = none
  bool_ : mg "bool" = none
  enumerate_ : mg "enumerate" = none
  int_ : mg "int" = none
  isinstance_ : mg "isinstance" = none
  len_ : mg "len" = none
  max_ : mg "max" = none
  range_ : mg "range" = none
  str_ : mg "str" = none
  sum_ : mg "sum" = none
  tuple_ : mg "tuple" = none
  zip_ : mg "zip" = none
/-- the deck, of which only the number of draws is told -/
def deckI (n : Nat) (s : List (List Int ⊕ Int)) : Prop := ∃ (cells : List Int) (i rest cnt tot : Int), s = [.inl cells, .inr i, .inr rest, .inr cnt, .inr tot] ∧ cells.length ≤ 63 ∧ 0 ≤ i ∧ i ≤ 63 ∧ 0 ≤ cnt ∧ cnt ≤ n
def deckN (K : PySem.W.Frag) (a : Addr) : Nat → Res := hidR deckI (resL (pS (pL K pI) pI) a)
def nextD : Int × Unit → Nat → (Int → Nat → Prop) → Prop := fun a n k => 0 < a.1 ∧ a.1 < 2 ^ 30 ∧ n < 2 ^ 40 ∧ ∀ r, 0 ≤ r → r < a.1 → k r (n + 1)
abbrev spNext (K : PySem.W.Frag) : Sp := SpF Addr (fun ad (a : Int × Unit) => [fz pA ad, fz pI a.1]) (deckN K) (fz pI) nextD
section
variable {C_NoSet : Addr} {C_NoCorner : Addr} {C_NoParting : Addr} {C_NoAsk : Addr} {C_FaceError : Addr}
variable {P : Program} {w : World} {K : PySem.W.Frag} {mg : Str → Option Value} {base : Heap}
def m_NoSet___init__ : Int × Unit → (XIn Int) → (Unit → (XIn Int) → Prop) → Prop := fun a s0 k =>
  ((a.1 : Int).natAbs.log2 < 1920 ∧ (([110, 111, 32, 115, 101, 116, 32, 98, 121, 32, 112, 108, 97, 99, 101, 32]).length + ((strI a.1)).length ≤ sizeLine ∧ (s0 = XIn.raw ∧ (((XIn.raw : (XIn Int))) = XIn.raw ∧ k () (XIn.full a.1 : (XIn Int))))))
abbrev sp_NoSet___init__ (K : PySem.W.Frag) (C_NoSet : Addr) : Sp := SpF Addr (fun ad (a : Int × Unit) => [fz pA ad, fz pI a.1]) (resX C_NoSet "place" pI) (fz pN) m_NoSet___init__
theorem sc_NoSet___init__ : FnScope ["self", "place"] ["self", "place"] (defScope s_NoSet___init__) := ⟨rfl, rfl, rfl, by decide +kernel, rfl, by decide +kernel, by decide +kernel⟩
theorem ok_NoSet___init__  {f : Addr} {fd : FuncData} (F : Fun K "__init__" "NoSet.__init__" s_NoSet___init__ f fd) (B : Bl mg)  (EX : EXS K mg C_NoSet C_NoCorner C_NoParting C_NoAsk C_FaceError)   : FnOk P w K mg base CX0 1 f fd ["self", "place"] (sp_NoSet___init__ K C_NoSet) :=
  fn_ok F sc_NoSet___init__ (fun _ _ => rfl) (fun M ad a s0 HI F0 R => XSs.conv (
    xs_xinit (i := 0) EX.os EX.bi EX.gf rfl (xe_addT (xe_str [110, 111, 32, 115, 101, 116, 32, 98, 121, 32, 112, 108, 97, 99, 101, 32]) (fun _ => xe_strI B.str_ (xe_var (i := 1) rfl))) (xs_xset (i := 0) EX.os EX.ns rfl (xe_var (i := 1) rfl) (fun y1 => xs_none (Same.refl _) rfl))
    ) (by exact fun h => h))
def m_NoCorner___init__ : Text × Unit → (XIn Text) → (Unit → (XIn Text) → Prop) → Prop := fun a s0 k =>
  (([110, 111, 32, 115, 117, 99, 104, 32, 99, 111, 114, 110, 101, 114, 58, 32]).length + a.1.length ≤ sizeLine ∧ (s0 = XIn.raw ∧ (((XIn.raw : (XIn Text))) = XIn.raw ∧ k () (XIn.full a.1 : (XIn Text)))))
abbrev sp_NoCorner___init__ (K : PySem.W.Frag) (C_NoCorner : Addr) : Sp := SpF Addr (fun ad (a : Text × Unit) => [fz pA ad, fz pT a.1]) (resX C_NoCorner "corner" pT) (fz pN) m_NoCorner___init__
theorem sc_NoCorner___init__ : FnScope ["self", "corner"] ["self", "corner"] (defScope s_NoCorner___init__) := ⟨rfl, rfl, rfl, by decide +kernel, rfl, by decide +kernel, by decide +kernel⟩
theorem ok_NoCorner___init__  {f : Addr} {fd : FuncData} (F : Fun K "__init__" "NoCorner.__init__" s_NoCorner___init__ f fd) (B : Bl mg)  (EX : EXS K mg C_NoSet C_NoCorner C_NoParting C_NoAsk C_FaceError)   : FnOk P w K mg base CX0 1 f fd ["self", "corner"] (sp_NoCorner___init__ K C_NoCorner) :=
  fn_ok F sc_NoCorner___init__ (fun _ _ => rfl) (fun M ad a s0 HI F0 R => XSs.conv (
    xs_xinit (i := 0) EX.oc EX.bi EX.gf rfl (xe_addT (xe_str [110, 111, 32, 115, 117, 99, 104, 32, 99, 111, 114, 110, 101, 114, 58, 32]) (fun _ => xe_strT B.str_ (xe_var (i := 1) rfl))) (xs_xset (i := 0) EX.oc EX.nc rfl (xe_var (i := 1) rfl) (fun y1 => xs_none (Same.refl _) rfl))
    ) (by exact fun h => h))
def m_corners_of : Text × Unit → Unit → ((List Text) → Unit → Prop) → Prop := fun a s0 k =>
  let found1 := [([] : Text)]; forB (fun sign6 (c3 : (List Text)) s7 kn8 kb9 => let longer10 := ([] : List Text); forB (fun corner15 (c12 : (List Text)) s16 kn17 kb18 => (((sgs ([48, 49]))).length ≤ sizeLine ∧ compW (fun bit21 s22 k24 => (if (memB sign6 ([bit21, [42]])) = true then (corner15.length + bit21.length ≤ sizeLine ∧ k24 (some ((corner15 ++ bit21))) s22) else k24 none s22)) (fun ys26 s23 => (c12.length + ys26.length ≤ sizeLine ∧ let longer25 := (c12 ++ ys26); kn17 longer25 s23)) ((sgs ([48, 49]))) s16 [])) (fun c27 s28 => kn8 c27 s28) c3 longer10 s7) (fun c31 s32 => k c31 s32) ((sgs a.1)) found1 s0
abbrev sp_corners_of (K : PySem.W.Frag) : Sp := SpF Unit (fun ad (a : Text × Unit) => [fz pT a.1]) (fun _ _ => emp) (fz (pU K pT)) m_corners_of
theorem sc_corners_of : FnScope ["face", "found", "sign", "longer", "corner", "bit"] ["face"] (defScope s_corners_of) := ⟨rfl, rfl, rfl, by decide +kernel, rfl, by decide +kernel, by decide +kernel⟩
theorem ok_corners_of  {f : Addr} {fd : FuncData} (F : Fun K "corners_of" "corners_of" s_corners_of f fd) (B : Bl mg)  (EX : EXS K mg C_NoSet C_NoCorner C_NoParting C_NoAsk C_FaceError)   : FnOk P w K mg base CX0 1 f fd ["face"] (sp_corners_of K) :=
  fn_ok F sc_corners_of (fun _ _ => rfl) (fun M ad a s0 HI F0 R => XSs.conv (
    xs_set 1 (xe_fr (xe_lst (ra := pT) (xl_cons (xe_str ([] : Text)) (fun _ => xl_nil)))) (fun found1 s2 => xs_for (fun (c3 : (List Text)) => [some (fz pT a.1), some (fz (pL K pT) c3), none, none, none, none]) found1 (xi_str (xe_var (i := 0) rfl)) (xg_name 2) (.keep (.keep (.drop (.drop (.drop (.drop .nil)))))) (fun F4 e5 sign6 c3 kn8 kb9 s7 => xs_set 3 (xe_lst (ra := pT) (xl_nil)) (fun longer10 s11 => xs_for (fun (c12 : (List Text)) => [some (fz pT a.1), some (fz (pL K pT) c3), some (fz pT sign6), some (ol pT c12), none, none]) longer10 (xi_list (xe_var (i := 1) rfl)) (xg_name 4) (.keep (.keep (.keep (.keep (.drop (.drop .nil)))))) (fun F13 e14 corner15 c12 kn17 kb18 s16 => xs_extend 3 rfl (xe_lcif [("bit", 5)] (xi_str (xe_str [48, 49])) (xg_name 5) (fun bit21 s22 => xts_one (xt_cmp (xc_inU fT (xe_var (i := 2) rfl) (fun _ => xe_tupU (ra := pT) (xl_cons (xe_var (i := 5) rfl) (fun _ => xl_cons (xe_str [42]) (fun _ => xl_nil))))))) (fun bit21 s22 => xe_addT (xe_var (i := 4) rfl) (fun _ => xe_var (i := 5) rfl))) (fun y19 s20 => xs_nil (c12 ++ y19) (.keep (.keep (.keep (.keep (.drop (.drop .nil)))))))) (fun c27 s28 => xs_freeze 3 rfl (xs_set 1 (xe_var (i := 3) rfl) (fun found29 s30 => xs_nil found29 (.keep (.keep (.drop (.drop (.drop (.drop .nil))))))))))) (fun c31 s32 => xs_ret (Same.refl _) (xe_tupL B.tuple_ (xe_var (i := 1) rfl))))
    ) (by exact fun h => h))
def m_read_set : Text × Unit → Unit → ((Int × (List Text)) → Unit → Prop) → (Exn → Unit → Prop) → Prop := fun a s0 k kx =>
  forB (fun place4 (c1 : Unit) s5 kn6 kb7 => (if (!inT place4.2 ([48, 49])) = true then let __n := (); m_NoSet___init__ (place4.1, ()) XIn.raw (fun _ i10 => ∃ z11, i10 = XIn.full z11 ∧ kx ((Exn.set z11)) s5) else let __n := (); kn6 (()) s5)) (fun c12 s13 => ((-(2 ^ 62) ≤ ((1 : Int) : Int) ∧ ((1 : Int) : Int) < 2 ^ 62 ∧ -(2 ^ 62) ≤ (((6 : Int) + (1 : Int)) : Int) ∧ (((6 : Int) + (1 : Int)) : Int) < 2 ^ 62) ∧ (((rg (1 : Int) ((((6 : Int) + (1 : Int)) : Int) - (1 : Int)).toNat)).length ≤ sizeLine ∧ compW (fun bits14 s15 k17 => (CPow (1 : Int) bits14 ∧ k17 (some (((1 : Int) * 2 ^ (bits14 : Int).toNat))) s15)) (fun ys36 s16 => (a.1.length ≤ sizeLine ∧ (if (!memB ((a.1.length : Int)) ys36) = true then let __n := (); (a.1.length ≤ sizeLine ∧ m_NoSet___init__ ((a.1.length : Int), ()) XIn.raw (fun _ i22 => ∃ z23, i22 = XIn.full z23 ∧ kx ((Exn.set z23)) s16)) else let __n := (); (a.1.length ≤ sizeLine ∧ (∃ j34 : Nat, ys36[j34]? = some ((a.1.length : Int)) ∧ (∀ m35, m35 < j34 → ys36[m35]? ≠ some ((a.1.length : Int))) ∧ let bits24 := ((j34 : Int) + (1 : Int)); (MulOk ([42]) bits24 ∧ m_corners_of ((mulT ([42]) bits24), ()) () (fun r33 _ => (((r33.zip ((sgs a.1)))).length ≤ sizeLine ∧ compW (fun corner28 s29 k31 => (if (eqB corner28.2 ([49])) = true then k31 (some corner28.1) s29 else k31 none s29)) (fun ys32 s30 => k ((bits24, ys32)) s30) ((r33.zip ((sgs a.1)))) s16 [])))))))) ((rg (1 : Int) ((((6 : Int) + (1 : Int)) : Int) - (1 : Int)).toNat)) s13 []))) ((enI ((sgs a.1)))) (()) s0
abbrev sp_read_set (K : PySem.W.Frag) (C_NoSet : Addr) (C_NoCorner : Addr) (C_NoParting : Addr) (C_NoAsk : Addr) : Sp := SpFX ⟨C_NoSet, C_NoCorner, C_NoParting, C_NoAsk⟩ Unit (fun ad (a : Text × Unit) => [fz pT a.1]) (fun _ _ => emp) (fz (pP K pI (pU K pT))) m_read_set
theorem sc_read_set : FnScope ["text", "place", "sign", "sizes", "bits", "corners", "corner"] ["text"] (defScope s_read_set) := ⟨rfl, rfl, rfl, by decide +kernel, rfl, by decide +kernel, by decide +kernel⟩
theorem ok_read_set {t_MOST_BITS : Tok} {f : Addr} {fd : FuncData} (F : Fun K "read_set" "read_set" s_read_set f fd) (B : Bl mg) (C_MOST_BITS : mg "MOST_BITS" = some (.int (6 : Int) t_MOST_BITS)) (EX : EXS K mg C_NoSet C_NoCorner C_NoParting C_NoAsk C_FaceError)  (h_NoSet___init__ : HasI P w K mg base "NoSet" C_NoSet 1 ["self", "place"] (sp_NoSet___init__ K C_NoSet)) (h_corners_of : Has P w K mg base "corners_of" 1 ["face"] (sp_corners_of K)) : FnOk P w K mg base (L2.CX P w) 3 f fd ["text"] (sp_read_set K C_NoSet C_NoCorner C_NoParting C_NoAsk) :=
  fn_okX F sc_read_set (fun _ _ => rfl) (fun M ad a s0 HI F0 R kx RZ => XSs.conv (
    xs_for (fun (c1 : Unit) => [some (fz pT a.1), none, none, none, none, none, none]) () (xi_enum B.enumerate_ drw_T (xe_var (i := 0) rfl)) (xg_tup2 (xg_name 1) (xg_name 2)) (.keep (.drop (.drop (.drop (.drop (.drop (.drop .nil))))))) (fun F2 e3 place4 c1 kn6 kb7 s5 => xs_if (xt_cmp (xc_ninT (xe_var (i := 2) rfl) (fun _ => xe_str [48, 49]))) (fun _ s8 => xs_raiseI (C := ⟨C_NoSet, C_NoCorner, C_NoParting, C_NoAsk⟩) (con := Exn.set) (RZ.on e3) (.drop (.drop (.drop (.drop (.drop (.drop (.drop .nil))))))) h_NoSet___init__ fl_I0 hexS (xe_var (i := 1) rfl)) (fun s9 => xs_nil () (.keep (.drop (.drop (.drop (.drop (.drop (.drop .nil))))))))) (fun c12 s13 => xs_setLc0 3 [("bits", 4)] (xi_range2 B.range_ (xe_int) (fun _ => xe_add (xe_glob (v := (.int (6 : Int))) (a := (6 : Int)) C_MOST_BITS ⟨_, rfl⟩ (fun _ => rfl)) (fun _ => xe_int))) (xg_name 4) (fun bits14 s15 => xe_shl (xe_int) (fun _ => xe_var (i := 4) rfl)) (fun sizes18 s19 => xs_freeze 3 rfl (xs_if (xt_cmp (xc_ninL fI (xe_lenT B.len_ (xe_var (i := 0) rfl)) (fun _ => xe_var (i := 3) rfl))) (fun _ s20 => xs_raiseI (C := ⟨C_NoSet, C_NoCorner, C_NoParting, C_NoAsk⟩) (con := Exn.set) RZ (.drop (.drop (.drop (.drop (.drop (.drop (.drop .nil))))))) h_NoSet___init__ fl_I0 hexS (xe_lenT B.len_ (xe_var (i := 0) rfl))) (fun s21 => xs_set 4 (xe_add (xe_index fI (xe_var (i := 3) rfl) (fun _ => xe_lenT B.len_ (xe_var (i := 0) rfl))) (fun _ => xe_int)) (fun bits24 s25 => xs_set 5 (xe_call h_corners_of () foc_emp (xa_cons (xe_mulT (xe_str [42]) (fun _ => xe_var (i := 4) rfl)) (fun _ => xa_nil))) (fun corners26 s27 => xs_ret (Same.refl _) (xe_tup2 (xe_var (i := 4) rfl) (fun _ => xe_tupL B.tuple_ (xe_fr (xe_lcif [("corner", 6), ("sign", 2)] (xi_zip B.zip_ drw_U drw_T (xe_var (i := 5) rfl) (fun _ => xe_var (i := 0) rfl)) (xg_tup2 (xg_name 6) (xg_name 2)) (fun corner28 s29 => xts_one (xt_cmp (xc_eq dT (xe_var (i := 2) rfl) (fun _ => xe_str [49])))) (fun corner28 s29 => xe_var (i := 6) rfl)))))))))))
    ) (by exact fun h => h))
def m__law_mix : Int × Int × Unit → Unit → (Int → Unit → Prop) → Prop := fun a s0 k =>
  ((0 : Int) < (2147483629 : Int) ∧ (CMul (1000003 : Int) a.2.1 ∧ (CMul (((1000003 : Int) * a.2.1)) a.2.1 ∧ let number1 := ((a.1 % (2147483629 : Int)) + (((1000003 : Int) * a.2.1) * a.2.1)); (CMul (7919 : Int) a.2.1 ∧ ((0 : Int) < (2147483629 : Int) ∧ let number3 := ((number1 + ((7919 : Int) * a.2.1)) % (2147483629 : Int)); (CMul number3 number3 ∧ ((0 : Int) < (2147483587 : Int) ∧ let number5 := ((number3 * number3) % (2147483587 : Int)); (CMul number5 ((number5 + (40961 : Int))) ∧ ((0 : Int) < (2147483563 : Int) ∧ (CDiv (((number5 * (number5 + (40961 : Int))) % (2147483563 : Int))) (4 : Int) ∧ k ((((number5 * (number5 + (40961 : Int))) % (2147483563 : Int)) / (4 : Int))) s0))))))))))
abbrev sp__law_mix (K : PySem.W.Frag) : Sp := SpF Unit (fun ad (a : Int × Int × Unit) => [fz pI a.1, fz pI a.2.1]) (fun _ _ => emp) (fz pI) m__law_mix
theorem sc__law_mix : FnScope ["cell", "k", "number"] ["cell", "k"] (defScope s__law_mix) := ⟨rfl, rfl, rfl, by decide +kernel, rfl, by decide +kernel, by decide +kernel⟩
theorem ok__law_mix  {f : Addr} {fd : FuncData} (F : Fun K "_law_mix" "_law_mix" s__law_mix f fd) (B : Bl mg)  (EX : EXS K mg C_NoSet C_NoCorner C_NoParting C_NoAsk C_FaceError)   : FnOk P w K mg base CX0 1 f fd ["cell", "k"] (sp__law_mix K) :=
  fn_ok F sc__law_mix (fun _ _ => rfl) (fun M ad a s0 HI F0 R => XSs.conv (
    xs_set 2 (xe_add (xe_mod (xe_var (i := 0) rfl) (fun _ => xe_int)) (fun _ => xe_mul (xe_mul (xe_int) (fun _ => xe_var (i := 1) rfl)) (fun _ => xe_var (i := 1) rfl))) (fun number1 s2 => xs_set 2 (xe_mod (xe_add (xe_var (i := 2) rfl) (fun _ => xe_mul (xe_int) (fun _ => xe_var (i := 1) rfl))) (fun _ => xe_int)) (fun number3 s4 => xs_set 2 (xe_mod (xe_mul (xe_var (i := 2) rfl) (fun _ => xe_var (i := 2) rfl)) (fun _ => xe_int)) (fun number5 s6 => xs_ret (Same.refl _) (xe_fdiv (xe_mod (xe_mul (xe_var (i := 2) rfl) (fun _ => xe_add (xe_var (i := 2) rfl) (fun _ => xe_int))) (fun _ => xe_int)) (fun _ => xe_int)))))
    ) (by exact fun h => h))
def m__law_deck : (List Int) × Unit → Unit → ((List ((List Int) ⊕ Int)) → Unit → Prop) → Prop := fun a s0 k =>
  k ([(Sum.inl ((cutG a.1 none (some (63 : Int))))), (Sum.inr (0 : Int)), (Sum.inr (0 : Int)), (Sum.inr (0 : Int)), (Sum.inr (((cutG a.1 none (some (63 : Int)))).sum))]) s0
abbrev sp__law_deck (K : PySem.W.Frag) : Sp := SpF Unit (fun ad (a : (List Int) × Unit) => [fz (pL K pI) a.1]) (fun _ _ => emp) (ol (pS (pL K pI) pI)) m__law_deck
theorem sc__law_deck : FnScope ["script"] ["script"] (defScope s__law_deck) := ⟨rfl, rfl, rfl, by decide +kernel, rfl, by decide +kernel, by decide +kernel⟩
theorem ok__law_deck  {f : Addr} {fd : FuncData} (F : Fun K "_law_deck" "_law_deck" s__law_deck f fd) (B : Bl mg)  (EX : EXS K mg C_NoSet C_NoCorner C_NoParting C_NoAsk C_FaceError)   : FnOk P w K mg base CX0 1 f fd ["script"] (sp__law_deck K) :=
  fn_ok F sc__law_deck (fun _ _ => rfl) (fun M ad a s0 HI F0 R => XSs.conv (
    xs_ret (Same.refl _) (xe_lst (ra := (pS (pL K pI) pI)) (xl_cons (xe_toL (rb := pI) (xe_fr (xe_cutL (xe_var (i := 0) rfl) (fun _ => xo_none) (fun _ => xo_some (xe_int))))) (fun _ => xl_cons (xe_toR (ra := (pL K pI)) (xe_int)) (fun _ => xl_cons (xe_toR (ra := (pL K pI)) (xe_int)) (fun _ => xl_cons (xe_toR (ra := (pL K pI)) (xe_int)) (fun _ => xl_cons (xe_toR (ra := (pL K pI)) (xe_sum B.sum_ (xe_fr (xe_cutL (xe_var (i := 0) rfl) (fun _ => xo_none) (fun _ => xo_some (xe_int)))))) (fun _ => xl_nil)))))))
    ) (by exact fun h => h))
def m__law_next : Int × Unit → (List (List Int ⊕ Int)) → (Int → (List (List Int ⊕ Int)) → Prop) → Prop := fun a s0 k =>
  jn (fun (kj1 : Unit → _ → Prop) => jn (fun k45 => (∃ y49, atI s0 (2 : Int) = some y49 ∧ (∃ y48, y49 = Sum.inr y48 ∧ (if (eqB y48 (0 : Int)) = true then (∃ y51, atI s0 (1 : Int) = some y51 ∧ (∃ y50, y51 = Sum.inr y50 ∧ (∃ y53, atI s0 (0 : Int) = some y53 ∧ (∃ y52, y53 = Sum.inl y52 ∧ k45 ((decide (y50 < (y52.length : Int)))) s0)))) else k45 false s0)))) (fun b46 s47 => (if b46 = true then let __ := (); (∃ y20, atI s47 (0 : Int) = some y20 ∧ (∃ y19, y20 = Sum.inl y19 ∧ (∃ y22, atI s47 (1 : Int) = some y22 ∧ (∃ y21, y22 = Sum.inr y21 ∧ (∃ y18, atI y19 y21 = some y18 ∧ (∃ y16, atI s47 (1 : Int) = some y16 ∧ (∃ y15, y16 = Sum.inr y15 ∧ (∃ n17, ixN s47.length (1 : Int) = some n17 ∧ let s7 := (s47.set n17 ((Sum.inr ((y15 + (1 : Int)))))); (CPow (10 : Int) (18 : Int) ∧ (if (decide (y18 < ((10 : Int) ^ ((18 : Int) : Int).toNat))) = true then let __n := (); (∃ y11, atI s7 (1 : Int) = some y11 ∧ (∃ y10, y11 = Sum.inr y10 ∧ m__law_mix (y18, y10, ()) () (fun r12 _ => ((0 : Int) < a.1 ∧ k ((r12 % a.1)) s7)))) else let __n := (); (∃ n14, ixN s7.length (2 : Int) = some n14 ∧ let s13 := (s7.set n14 ((Sum.inr y18))); kj1 (()) s13))))))))))) else let __ := (); kj1 (()) s47))) (fun z23 s4 => (∃ y44, atI s4 (2 : Int) = some y44 ∧ (∃ y43, y44 = Sum.inr y43 ∧ (if (decide ((0 : Int) < y43)) = true then let __n := (); (∃ y33, atI s4 (2 : Int) = some y33 ∧ (∃ y32, y33 = Sum.inr y32 ∧ ((0 : Int) < a.1 ∧ let found26 := (y32 % a.1); (∃ y30, atI s4 (2 : Int) = some y30 ∧ (∃ y29, y30 = Sum.inr y29 ∧ (CDiv y29 a.1 ∧ (∃ n31, ixN s4.length (2 : Int) = some n31 ∧ let s28 := (s4.set n31 ((Sum.inr ((y29 / a.1))))); k found26 s28))))))) else let __n := (); (∃ y41, atI s4 (3 : Int) = some y41 ∧ (∃ y40, y41 = Sum.inr y40 ∧ (∃ n42, ixN s4.length (3 : Int) = some n42 ∧ let s34 := (s4.set n42 ((Sum.inr ((y40 + (1 : Int)))))); (∃ y36, atI s34 (4 : Int) = some y36 ∧ (∃ y35, y36 = Sum.inr y35 ∧ (∃ y38, atI s34 (3 : Int) = some y38 ∧ (∃ y37, y38 = Sum.inr y37 ∧ m__law_mix (y35, (y37 + (1051 : Int)), ()) () (fun r39 _ => ((0 : Int) < a.1 ∧ k ((r39 % a.1)) s34)))))))))))))
abbrev sp__law_next (K : PySem.W.Frag) : Sp := SpF Addr (fun ad (a : Int × Unit) => [fz pA ad, fz pI a.1]) (resL (pS (pL K pI) pI)) (fz pI) m__law_next
theorem sc__law_next : FnScope ["deck", "many", "cell", "found"] ["deck", "many"] (defScope s__law_next) := ⟨rfl, rfl, rfl, by decide +kernel, rfl, by decide +kernel, by decide +kernel⟩
theorem ok__law_next  {f : Addr} {fd : FuncData} (F : Fun K "_law_next" "_law_next" s__law_next f fd) (B : Bl mg)  (EX : EXS K mg C_NoSet C_NoCorner C_NoParting C_NoAsk C_FaceError)  (h__law_mix : Has P w K mg base "_law_mix" 1 ["cell", "k"] (sp__law_mix K)) : FnOk P w K mg base CX0 2 f fd ["deck", "many"] (sp__law_next K) :=
  fn_ok F sc__law_next (fun _ _ => rfl) (fun M ad a s0 HI F0 R => XSs.conv (
    xs_ifj (fun (z23 : Unit) => [some (fz pA ad), some (fz pI a.1), none, none]) (xt_w (xw_and (xt_cmp (xc_eq dI (xe_ofR (xe_resIx foc_id (i := 0) rfl (xe_int))) (fun _ => xe_int))) (fun _ => xw_and1 (xt_cmp (xc_lt (xe_ofR (xe_resIx foc_id (i := 0) rfl (xe_int))) (fun _ => xe_lenL B.len_ (xe_ofL (xe_resIx foc_id (i := 0) rfl (xe_int))))))))) (fun kj1 s2 => xs_set 2 (xe_ixL (xe_ofL (xe_resIx foc_id (i := 0) rfl (xe_int))) (fun _ => xe_ofR (xe_resIx foc_id (i := 0) rfl (xe_int)))) (fun cell5 s6 => xs_resSet foc_id (i := 0) rfl (xe_toR (ra := (pL K pI)) (xe_add (xe_ofR (xe_resIx foc_id (i := 0) rfl (xe_int))) (fun _ => xe_int))) (fun _ => xe_int) (fun s7 => xs_if (xt_cmp (xc_lt (xe_var (i := 2) rfl) (fun _ => xe_pow (xe_int) (fun _ => xe_int)))) (fun _ s8 => xs_ret (Same.refl _) (xe_mod (xe_call h__law_mix () foc_emp (xa_cons (xe_var (i := 2) rfl) (fun _ => xa_cons (xe_ofR (xe_resIx foc_id (i := 0) rfl (xe_int))) (fun _ => xa_nil)))) (fun _ => xe_var (i := 1) rfl))) (fun s9 => xs_resSet foc_id (i := 0) rfl (xe_toR (ra := (pL K pI)) (xe_var (i := 2) rfl)) (fun _ => xe_int) (fun s13 => xs_nil () (.keep (.keep (.drop (.drop .nil))))))))) (fun kj1 s3 => xs_nil () (.keep (.keep (.drop (.drop .nil))))) (fun z23 s4 => xs_if (xt_cmp (xc_gt (xe_ofR (xe_resIx foc_id (i := 0) rfl (xe_int))) (fun _ => xe_int))) (fun _ s24 => xs_set 3 (xe_mod (xe_ofR (xe_resIx foc_id (i := 0) rfl (xe_int))) (fun _ => xe_var (i := 1) rfl)) (fun found26 s27 => xs_resSet foc_id (i := 0) rfl (xe_toR (ra := (pL K pI)) (xe_fdiv (xe_ofR (xe_resIx foc_id (i := 0) rfl (xe_int))) (fun _ => xe_var (i := 1) rfl))) (fun _ => xe_int) (fun s28 => xs_ret (Same.refl _) (xe_var (i := 3) rfl)))) (fun s25 => xs_resSet foc_id (i := 0) rfl (xe_toR (ra := (pL K pI)) (xe_add (xe_ofR (xe_resIx foc_id (i := 0) rfl (xe_int))) (fun _ => xe_int))) (fun _ => xe_int) (fun s34 => xs_ret (Same.refl _) (xe_mod (xe_call h__law_mix () foc_emp (xa_cons (xe_ofR (xe_resIx foc_id (i := 0) rfl (xe_int))) (fun _ => xa_cons (xe_add (xe_ofR (xe_resIx foc_id (i := 0) rfl (xe_int))) (fun _ => xe_int)) (fun _ => xa_nil)))) (fun _ => xe_var (i := 1) rfl)))))
    ) (by exact fun h => h))
theorem mix_any (c k : Int) (hk : -(2 ^ 64) < k ∧ k < 2 ^ 64) (C : Int → Unit → Prop) (h : ∀ r, C r ()) : m__law_mix (c, k, ()) () C := by
  have e1 := Int.emod_nonneg (((c % 2147483629 + 1000003 * k * k) + 7919 * k)) (by decide : (2147483629 : Int) ≠ 0)
  have e2 := Int.emod_lt_of_pos (((c % 2147483629 + 1000003 * k * k) + 7919 * k)) (by decide : (0 : Int) < 2147483629)
  refine ⟨by decide, .inr hk, .inr hk, .inr hk, by decide, .inr ?_, by decide, .inl ?_, by decide, ⟨by decide, by decide⟩, h _⟩
  · dsimp only; omega
  · dsimp only
    have e1 := Int.emod_nonneg (((c % 2147483629 + 1000003 * k * k) + 7919 * k) % 2147483629 * (((c % 2147483629 + 1000003 * k * k) + 7919 * k) % 2147483629)) (by decide : (2147483587 : Int) ≠ 0)
    have e2 := Int.emod_lt_of_pos (((c % 2147483629 + 1000003 * k * k) + 7919 * k) % 2147483629 * (((c % 2147483629 + 1000003 * k * k) + 7919 * k) % 2147483629)) (by decide : (0 : Int) < 2147483587)
    omega
theorem next_abs (x : Int × Unit) (n : Nat) (C : Int → Nat → Prop) (h : nextD x n C) : ∀ s, deckI n s → m__law_next x s fun y s' => ∃ n', deckI n' s' ∧ C y n' := by
  obtain ⟨m, u⟩ := x
  obtain ⟨m0, m1, hn, h⟩ := h
  dsimp only at m0 m1 h
  rintro s ⟨cells, i, rest, cnt, tot, rfl, hc, i0, i1, c0, c1⟩
  have hm : ∀ r : Int, 0 ≤ r % m ∧ r % m < m := fun r => ⟨Int.emod_nonneg _ (by omega), Int.emod_lt_of_pos _ m0⟩
  refine jn_by (fun (_ : Unit) s => ∃ i rest, 0 ≤ i ∧ i ≤ 63 ∧ s = [.inl cells, .inr i, .inr rest, .inr cnt, .inr tot]) ?_ ?_
  · intro kj hk
    refine jn_by (fun b s => s = [.inl cells, .inr i, .inr rest, .inr cnt, .inr tot] ∧ (b = true → i < cells.length)) ?_ ?_
    · intro kj' hk'
      refine ⟨_, rfl, _, rfl, ?_⟩
      split
      · exact ⟨_, rfl, _, rfl, _, rfl, _, rfl, hk' _ _ ⟨rfl, fun q => of_decide_eq_true q⟩⟩
      · exact hk' _ _ ⟨rfl, fun q => by cases q⟩
    · rintro b s ⟨rfl, hb⟩
      split
      · rename_i hb'
        have hi := hb hb'
        obtain ⟨j, rfl⟩ := Int.eq_ofNat_of_zero_le i0
        have hj : j < cells.length := by omega
        refine ⟨_, rfl, _, rfl, _, rfl, _, rfl, cells[j]'hj, ?_, _, rfl, _, rfl, 1, rfl, ?_⟩
        · exact atI_nat hj
        refine ⟨⟨by decide, by decide, by decide⟩, ?_⟩
        split
        · refine ⟨_, rfl, _, rfl, mix_any _ _ ⟨by omega, by omega⟩ _ fun r => ⟨m0, _, ⟨cells, (j : Int) + 1, rest, cnt, tot, rfl, hc, by omega, by omega, c0, by omega⟩, h _ (hm r).1 (hm r).2⟩⟩
        · exact ⟨2, rfl, hk _ _ ⟨(j : Int) + 1, cells[j], by omega, by omega, rfl⟩⟩
      · exact hk _ _ ⟨i, rest, i0, i1, rfl⟩
  · rintro u s ⟨i, rest, i0, i1, rfl⟩
    refine ⟨_, rfl, _, rfl, ?_⟩
    split
    · exact ⟨_, rfl, _, rfl, m0, _, rfl, _, rfl, ⟨m0, by omega⟩, 2, rfl, _, ⟨cells, i, rest / m, cnt, tot, rfl, hc, i0, i1, c0, by omega⟩, h _ (hm rest).1 (hm rest).2⟩
    · exact ⟨_, rfl, _, rfl, 3, rfl, _, rfl, _, rfl, _, rfl, _, rfl, mix_any _ _ ⟨by omega, by omega⟩ _ fun r => ⟨m0, _, ⟨cells, i, rest, cnt + 1, tot, rfl, hc, i0, i1, by omega, by omega⟩, h _ (hm r).1 (hm r).2⟩⟩
def m__law_bits : Unit → Nat → (Int → Nat → Prop) → Prop := fun a s0 k =>
  nextD ((6 : Int), ()) s0 (fun r2 s3 => nextD ((3 : Int), ()) s3 (fun r4 s5 => nextD ((3 : Int), ()) s5 (fun r6 s7 => (∃ y1, atI ([((1 : Int) + r2), (6 : Int), ((1 : Int) + r4)]) r6 = some y1 ∧ k y1 s7))))
abbrev sp__law_bits (K : PySem.W.Frag) : Sp := SpF Addr (fun ad (a : Unit) => [fz pA ad]) (deckN K) (fz pI) m__law_bits
theorem sc__law_bits : FnScope ["deck"] ["deck"] (defScope s__law_bits) := ⟨rfl, rfl, rfl, by decide +kernel, rfl, by decide +kernel, by decide +kernel⟩
theorem ok__law_bits  {f : Addr} {fd : FuncData} (F : Fun K "_law_bits" "_law_bits" s__law_bits f fd) (B : Bl mg)  (EX : EXS K mg C_NoSet C_NoCorner C_NoParting C_NoAsk C_FaceError)  (h__law_next : Has P w K mg base "_law_next" 2 ["deck", "many"] (spNext K)) : FnOk P w K mg base CX0 3 f fd ["deck"] (sp__law_bits K) :=
  fn_ok F sc__law_bits (fun _ _ => rfl) (fun M ad a s0 HI F0 R => XSs.conv (
    xs_ret (Same.refl _) (xe_ixL (xe_fr (xe_lst (ra := pI) (xl_cons (xe_add (xe_int) (fun _ => xe_call h__law_next ad foc_id (xa_adr (i := 0) rfl (fun _ => xa_cons (xe_int) (fun _ => xa_nil))))) (fun _ => xl_cons (xe_int) (fun _ => xl_cons (xe_add (xe_int) (fun _ => xe_call h__law_next ad foc_id (xa_adr (i := 0) rfl (fun _ => xa_cons (xe_int) (fun _ => xa_nil))))) (fun _ => xl_nil)))))) (fun _ => xe_call h__law_next ad foc_id (xa_adr (i := 0) rfl (fun _ => xa_cons (xe_int) (fun _ => xa_nil)))))
    ) (by exact fun h => h))
def m__law_face : Int × Unit → Nat → (Text → Nat → Prop) → Prop := fun a s0 k =>
  nextD ((5 : Int), ()) s0 (fun r14 s15 => (∃ y13, atI ([[48, 49, 42], [48, 49], [42], [48, 49, 48, 49, 48, 49, 48, 49, 42], [48, 49, 42, 42, 42, 42]]) r14 = some y13 ∧ ((-(2 ^ 62) ≤ a.1 ∧ a.1 < 2 ^ 62) ∧ (((rg 0 a.1.toNat)).length ≤ sizeLine ∧ compW (fun k5 s6 k8 => (y13.length ≤ sizeLine ∧ nextD ((y13.length : Int), ()) s6 (fun r10 s11 => (y13.length ≤ sizeLine ∧ ∃ c9, atI y13 r10 = some c9 ∧ k8 (some ([c9])) s11)))) (fun ys12 s7 => ((ys12.map (·.length)).sum + ys12.length * ([] : Text).length ≤ 16777216 ∧ k ((joinT ([] : Text) ys12)) s7)) ((rg 0 a.1.toNat)) s15 []))))
abbrev sp__law_face (K : PySem.W.Frag) : Sp := SpF Addr (fun ad (a : Int × Unit) => [fz pA ad, fz pI a.1]) (deckN K) (fz pT) m__law_face
theorem sc__law_face : FnScope ["deck", "bits", "way", "signs", "k"] ["deck", "bits"] (defScope s__law_face) := ⟨rfl, rfl, rfl, by decide +kernel, rfl, by decide +kernel, by decide +kernel⟩
theorem ok__law_face  {f : Addr} {fd : FuncData} (F : Fun K "_law_face" "_law_face" s__law_face f fd) (B : Bl mg)  (EX : EXS K mg C_NoSet C_NoCorner C_NoParting C_NoAsk C_FaceError)  (h__law_next : Has P w K mg base "_law_next" 2 ["deck", "many"] (spNext K)) : FnOk P w K mg base CX0 3 f fd ["deck", "bits"] (sp__law_face K) :=
  fn_ok F sc__law_face (fun _ _ => rfl) (fun M ad a s0 HI F0 R => XSs.conv (
    xs_set 2 (xe_call h__law_next ad foc_id (xa_adr (i := 0) rfl (fun _ => xa_cons (xe_int) (fun _ => xa_nil)))) (fun way1 s2 => xs_set 3 (xe_ixL (xe_fr (xe_lst (ra := pT) (xl_cons (xe_str [48, 49, 42]) (fun _ => xl_cons (xe_str [48, 49]) (fun _ => xl_cons (xe_str [42]) (fun _ => xl_cons (xe_str [48, 49, 48, 49, 48, 49, 48, 49, 42]) (fun _ => xl_cons (xe_str [48, 49, 42, 42, 42, 42]) (fun _ => xl_nil)))))))) (fun _ => xe_var (i := 2) rfl)) (fun signs3 s4 => xs_ret (Same.refl _) (xe_joinL (xe_str ([] : Text)) (fun _ => xe_fr (xe_lc [("k", 4)] (xi_range1 B.range_ (xe_var (i := 1) rfl)) (xg_name 4) (fun k5 s6 => xe_ixT (xe_var (i := 3) rfl) (fun _ => xe_call h__law_next ad foc_id (xa_adr (i := 0) rfl (fun _ => xa_cons (xe_lenT B.len_ (xe_var (i := 3) rfl)) (fun _ => xa_nil))))))))))
    ) (by exact fun h => h))
def m__law_all : Int × Unit → Unit → ((List Text) → Unit → Prop) → Prop := fun a s0 k =>
  let found1 := ([] : List Text); (CPow (1 : Int) a.1 ∧ ((-(2 ^ 62) ≤ ((1 : Int) * 2 ^ (a.1 : Int).toNat) ∧ ((1 : Int) * 2 ^ (a.1 : Int).toNat) < 2 ^ 62) ∧ forB (fun number6 (c3 : (List Text)) s7 kn8 kb9 => ((-(2 ^ 62) ≤ a.1 ∧ a.1 < 2 ^ 62) ∧ (((rg 0 a.1.toNat)).length ≤ sizeLine ∧ compW (fun k12 s13 k15 => ((0 : Int) ≤ ((a.1 - (1 : Int)) - k12) ∧ (((Builtin.bitAnd ((number6 / 2 ^ (((a.1 - (1 : Int)) - k12) : Int).toNat)) (1 : Int)) : Int).natAbs.log2 < 1920 ∧ k15 (some ((strI ((Builtin.bitAnd ((number6 / 2 ^ (((a.1 - (1 : Int)) - k12) : Int).toNat)) (1 : Int)))))) s13))) (fun ys17 s14 => ((ys17.map (·.length)).sum + ys17.length * ([] : Text).length ≤ 16777216 ∧ (c3.length < sizeLine ∧ let found16 := (c3 ++ [(joinT ([] : Text) ys17)]); kn8 found16 s14))) ((rg 0 a.1.toNat)) s7 []))) (fun c18 s19 => k c18 s19) ((rg 0 (((1 : Int) * 2 ^ (a.1 : Int).toNat)).toNat)) found1 s0))
abbrev sp__law_all (K : PySem.W.Frag) : Sp := SpF Unit (fun ad (a : Int × Unit) => [fz pI a.1]) (fun _ _ => emp) (fz (pL K pT)) m__law_all
theorem sc__law_all : FnScope ["bits", "found", "number", "k"] ["bits"] (defScope s__law_all) := ⟨rfl, rfl, rfl, by decide +kernel, rfl, by decide +kernel, by decide +kernel⟩
theorem ok__law_all  {f : Addr} {fd : FuncData} (F : Fun K "_law_all" "_law_all" s__law_all f fd) (B : Bl mg)  (EX : EXS K mg C_NoSet C_NoCorner C_NoParting C_NoAsk C_FaceError)   : FnOk P w K mg base CX0 1 f fd ["bits"] (sp__law_all K) :=
  fn_ok F sc__law_all (fun _ _ => rfl) (fun M ad a s0 HI F0 R => XSs.conv (
    xs_set 1 (xe_lst (ra := pT) (xl_nil)) (fun found1 s2 => xs_for (fun (c3 : (List Text)) => [some (fz pI a.1), some (ol pT c3), none, none]) found1 (xi_range1 B.range_ (xe_shl (xe_int) (fun _ => xe_var (i := 0) rfl))) (xg_name 2) (.keep (.keep (.drop (.drop .nil)))) (fun F4 e5 number6 c3 kn8 kb9 s7 => xs_append 1 rfl (xe_joinL (xe_str ([] : Text)) (fun _ => xe_fr (xe_lc [("k", 3)] (xi_range1 B.range_ (xe_var (i := 0) rfl)) (xg_name 3) (fun k12 s13 => xe_strI B.str_ (xe_band (xe_shr (xe_var (i := 2) rfl) (fun _ => xe_sub (xe_sub (xe_var (i := 0) rfl) (fun _ => xe_int)) (fun _ => xe_var (i := 3) rfl))) (fun _ => xe_int)))))) (fun y10 s11 => xs_nil (c3 ++ [y10]) (.keep (.keep (.drop (.drop .nil)))))) (fun c18 s19 => xs_freeze 1 rfl (xs_ret (Same.refl _) (xe_var (i := 1) rfl))))
    ) (by exact fun h => h))
def m__law_lies : Text × Text × Unit → Unit → (Bool → Unit → Prop) → Prop := fun a s0 k =>
  (a.1.length ≤ sizeLine ∧ ((-(2 ^ 62) ≤ (a.1.length : Int) ∧ (a.1.length : Int) < 2 ^ 62) ∧ forB (fun k4 (c1 : Unit) s5 kn6 kb7 => jn (fun k10 => (a.1.length ≤ sizeLine ∧ ∃ c13, atI a.1 k4 = some c13 ∧ (if (!eqB ([c13]) ([42])) = true then (a.1.length ≤ sizeLine ∧ ∃ c14, atI a.1 k4 = some c14 ∧ (a.2.1.length ≤ sizeLine ∧ ∃ c15, atI a.2.1 k4 = some c15 ∧ k10 ((!eqB ([c14]) ([c15]))) s5)) else k10 false s5))) (fun b11 s12 => (if b11 = true then let __n := (); k false s12 else let __n := (); kn6 (()) s12))) (fun c16 s17 => k true s17) ((rg 0 ((a.1.length : Int)).toNat)) (()) s0))
abbrev sp__law_lies (K : PySem.W.Frag) : Sp := SpF Unit (fun ad (a : Text × Text × Unit) => [fz pT a.1, fz pT a.2.1]) (fun _ _ => emp) (fz pB) m__law_lies
theorem sc__law_lies : FnScope ["face", "corner", "k"] ["face", "corner"] (defScope s__law_lies) := ⟨rfl, rfl, rfl, by decide +kernel, rfl, by decide +kernel, by decide +kernel⟩
theorem ok__law_lies  {f : Addr} {fd : FuncData} (F : Fun K "_law_lies" "_law_lies" s__law_lies f fd) (B : Bl mg)  (EX : EXS K mg C_NoSet C_NoCorner C_NoParting C_NoAsk C_FaceError)   : FnOk P w K mg base CX0 1 f fd ["face", "corner"] (sp__law_lies K) :=
  fn_ok F sc__law_lies (fun _ _ => rfl) (fun M ad a s0 HI F0 R => XSs.conv (
    xs_for (fun (c1 : Unit) => [some (fz pT a.1), some (fz pT a.2.1), none]) () (xi_range1 B.range_ (xe_lenT B.len_ (xe_var (i := 0) rfl))) (xg_name 2) (.keep (.keep (.drop .nil))) (fun F2 e3 k4 c1 kn6 kb7 s5 => xs_if (xt_w (xw_and (xt_cmp (xc_ne dT (xe_ixT (xe_var (i := 0) rfl) (fun _ => xe_var (i := 2) rfl)) (fun _ => xe_str [42]))) (fun _ => xw_and1 (xt_cmp (xc_ne dT (xe_ixT (xe_var (i := 0) rfl) (fun _ => xe_var (i := 2) rfl)) (fun _ => xe_ixT (xe_var (i := 1) rfl) (fun _ => xe_var (i := 2) rfl))))))) (fun _ s8 => xs_ret e3 (xe_bl)) (fun s9 => xs_nil () (.keep (.keep (.drop .nil))))) (fun c16 s17 => xs_ret (Same.refl _) (xe_bl))
    ) (by exact fun h => h))
def m__law_set : Int × Unit → Nat → ((Int × (List Text)) → Nat → Prop) → Prop := fun a s0 k =>
  m__law_all (a.1, ()) () (fun r70 _ => nextD ((8 : Int), ()) s0 (fun r68 s69 => (CPow (10 : Int) (6 : Int) ∧ (CPow (10 : Int) (6 : Int) ∧ (∃ y67, atI ([(1 : Int), ((10 : Int) ^ ((6 : Int) : Int).toNat), ((10 : Int) ^ ((6 : Int) : Int).toNat), (2 : Int), (8 : Int), (2 : Int), (3 : Int), (4 : Int)]) r68 = some y67 ∧ (r70.length ≤ sizeLine ∧ compW (fun corner7 s8 k10 => nextD (y67, ()) s8 (fun r64 s65 => (if (eqB r64 (0 : Int)) = true then k10 (some corner7) s65 else k10 none s65))) (fun ys66 s9 => jn (fun (kj13 : (List Text) → _ → Prop) => (if (eqB r68 (2 : Int)) = true then let __ := (); nextD ((r70.length : Int), ()) s9 (fun r20 s21 => (∃ y19, atI r70 r20 = some y19 ∧ let found17 := [y19]; kj13 found17 s21)) else let __ := (); kj13 ys66 s9)) (fun z22 s16 => jn (fun (kj23 : (List Text) → _ → Prop) => (if (eqB r68 (4 : Int)) = true then let __ := (); (r70.length ≤ sizeLine ∧ compW (fun corner27 s28 k30 => (if (!memB corner27 z22) = true then k30 (some corner27) s28 else k30 none s28)) (fun ys33 s29 => kj23 ys33 s29) r70 s16 []) else let __ := (); kj23 z22 s16)) (fun z34 s26 => jn (fun (kj35 : (List Text) → _ → Prop) => (if (decide ((5 : Int) < r68)) = true then let __ := (); nextD ((4 : Int), ()) s26 (fun r61 s62 => ((-(2 ^ 62) ≤ ((1 : Int) + r61) ∧ ((1 : Int) + r61) < 2 ^ 62) ∧ (((rg 0 (((1 : Int) + r61)).toNat)).length ≤ sizeLine ∧ compW (fun k39 s40 k42 => m__law_face (a.1, ()) s40 (fun r58 s59 => k42 (some r58) s59)) (fun ys60 s41 => (r70.length ≤ sizeLine ∧ compW (fun corner45 s50 k52 => (ys60.length ≤ sizeLine ∧ compW (fun face46 s47 k49 => m__law_lies (face46, corner45, ()) () (fun r55 _ => (if r55 = true then k49 (some face46) s47 else k49 none s47))) (fun ys56 s48 => (if (!eqB ys56 (([] : List Text))) = true then k52 (some corner45) s48 else k52 none s48)) ys60 s50 [])) (fun ys57 s51 => kj35 ys57 s51) r70 s41 [])) ((rg 0 (((1 : Int) + r61)).toNat)) s62 []))) else let __ := (); kj35 z34 s26)) (fun z63 s38 => k ((a.1, z63)) s38)))) r70 s69 []))))))
abbrev sp__law_set (K : PySem.W.Frag) : Sp := SpF Addr (fun ad (a : Int × Unit) => [fz pA ad, fz pI a.1]) (deckN K) (fz (pP K pI (pU K pT))) m__law_set
theorem sc__law_set : FnScope ["deck", "bits", "every", "way", "often", "found", "corner", "faces", "k", "face"] ["deck", "bits"] (defScope s__law_set) := ⟨rfl, rfl, rfl, by decide +kernel, rfl, by decide +kernel, by decide +kernel⟩
theorem ok__law_set  {f : Addr} {fd : FuncData} (F : Fun K "_law_set" "_law_set" s__law_set f fd) (B : Bl mg)  (EX : EXS K mg C_NoSet C_NoCorner C_NoParting C_NoAsk C_FaceError)  (h__law_all : Has P w K mg base "_law_all" 1 ["bits"] (sp__law_all K)) (h__law_next : Has P w K mg base "_law_next" 2 ["deck", "many"] (spNext K)) (h__law_face : Has P w K mg base "_law_face" 3 ["deck", "bits"] (sp__law_face K)) (h__law_lies : Has P w K mg base "_law_lies" 1 ["face", "corner"] (sp__law_lies K)) : FnOk P w K mg base CX0 4 f fd ["deck", "bits"] (sp__law_set K) :=
  fn_ok F sc__law_set (fun _ _ => rfl) (fun M ad a s0 HI F0 R => XSs.conv (
    xs_set 2 (xe_call h__law_all () foc_emp (xa_cons (xe_var (i := 1) rfl) (fun _ => xa_nil))) (fun every1 s2 => xs_set 3 (xe_call h__law_next ad foc_id (xa_adr (i := 0) rfl (fun _ => xa_cons (xe_int) (fun _ => xa_nil)))) (fun way3 s4 => xs_set 4 (xe_ixL (xe_fr (xe_lst (ra := pI) (xl_cons (xe_int) (fun _ => xl_cons (xe_pow (xe_int) (fun _ => xe_int)) (fun _ => xl_cons (xe_pow (xe_int) (fun _ => xe_int)) (fun _ => xl_cons (xe_int) (fun _ => xl_cons (xe_int) (fun _ => xl_cons (xe_int) (fun _ => xl_cons (xe_int) (fun _ => xl_cons (xe_int) (fun _ => xl_nil))))))))))) (fun _ => xe_var (i := 3) rfl)) (fun often5 s6 => xs_set 5 (xe_fr (xe_lcif [("corner", 6)] (xi_list (xe_var (i := 2) rfl)) (xg_name 6) (fun corner7 s8 => xts_one (xt_cmp (xc_eq dI (xe_call h__law_next ad foc_id (xa_adr (i := 0) rfl (fun _ => xa_cons (xe_var (i := 4) rfl) (fun _ => xa_nil)))) (fun _ => xe_int)))) (fun corner7 s8 => xe_var (i := 6) rfl))) (fun found11 s12 => xs_ifj (fun (z22 : (List Text)) => [some (fz pA ad), some (fz pI a.1), some (fz (pL K pT) every1), some (fz pI way3), some (fz pI often5), some (fz (pL K pT) z22), none, none, none, none]) (xt_cmp (xc_eq dI (xe_var (i := 3) rfl) (fun _ => xe_int))) (fun kj13 s14 => xs_set 5 (xe_fr (xe_lst (ra := pT) (xl_cons (xe_ixL (xe_var (i := 2) rfl) (fun _ => xe_call h__law_next ad foc_id (xa_adr (i := 0) rfl (fun _ => xa_cons (xe_lenL B.len_ (xe_var (i := 2) rfl)) (fun _ => xa_nil))))) (fun _ => xl_nil)))) (fun found17 s18 => xs_nil found17 (.keep (.keep (.keep (.keep (.keep (.keep (.drop (.drop (.drop (.drop .nil)))))))))))) (fun kj13 s15 => xs_nil found11 (.keep (.keep (.keep (.keep (.keep (.keep (.drop (.drop (.drop (.drop .nil))))))))))) (fun z22 s16 => xs_ifj (fun (z34 : (List Text)) => [some (fz pA ad), some (fz pI a.1), some (fz (pL K pT) every1), some (fz pI way3), some (fz pI often5), some (fz (pL K pT) z34), none, none, none, none]) (xt_cmp (xc_eq dI (xe_var (i := 3) rfl) (fun _ => xe_int))) (fun kj23 s24 => xs_set 5 (xe_fr (xe_lcif [("corner", 6)] (xi_list (xe_var (i := 2) rfl)) (xg_name 6) (fun corner27 s28 => xts_one (xt_cmp (xc_ninL fT (xe_var (i := 6) rfl) (fun _ => xe_var (i := 5) rfl)))) (fun corner27 s28 => xe_var (i := 6) rfl))) (fun found31 s32 => xs_nil found31 (.keep (.keep (.keep (.keep (.keep (.keep (.drop (.drop (.drop (.drop .nil)))))))))))) (fun kj23 s25 => xs_nil z22 (.keep (.keep (.keep (.keep (.keep (.keep (.drop (.drop (.drop (.drop .nil))))))))))) (fun z34 s26 => xs_ifj (fun (z63 : (List Text)) => [some (fz pA ad), some (fz pI a.1), some (fz (pL K pT) every1), some (fz pI way3), some (fz pI often5), some (fz (pL K pT) z63), none, none, none, none]) (xt_cmp (xc_gt (xe_var (i := 3) rfl) (fun _ => xe_int))) (fun kj35 s36 => xs_set 7 (xe_fr (xe_lc [("k", 8)] (xi_range1 B.range_ (xe_add (xe_int) (fun _ => xe_call h__law_next ad foc_id (xa_adr (i := 0) rfl (fun _ => xa_cons (xe_int) (fun _ => xa_nil)))))) (xg_name 8) (fun k39 s40 => xe_call h__law_face ad foc_id (xa_adr (i := 0) rfl (fun _ => xa_cons (xe_var (i := 1) rfl) (fun _ => xa_nil)))))) (fun faces43 s44 => xs_set 5 (xe_fr (xe_lcif [("corner", 6)] (xi_list (xe_var (i := 2) rfl)) (xg_name 6) (fun corner45 s50 => xts_one (xt_cmp (xc_ne (dL dT) (xe_fr (xe_lcif [("face", 9)] (xi_list (xe_var (i := 7) rfl)) (xg_name 9) (fun face46 s47 => xts_one (xt_val (xe_call h__law_lies () foc_emp (xa_cons (xe_var (i := 9) rfl) (fun _ => xa_cons (xe_var (i := 6) rfl) (fun _ => xa_nil)))))) (fun face46 s47 => xe_var (i := 9) rfl))) (fun _ => xe_fr (xe_lst (ra := pT) (xl_nil)))))) (fun corner45 s50 => xe_var (i := 6) rfl))) (fun found53 s54 => xs_nil found53 (.keep (.keep (.keep (.keep (.keep (.keep (.drop (.drop (.drop (.drop .nil))))))))))))) (fun kj35 s37 => xs_nil z34 (.keep (.keep (.keep (.keep (.keep (.keep (.drop (.drop (.drop (.drop .nil))))))))))) (fun z63 s38 => xs_ret (Same.refl _) (xe_tup2 (xe_var (i := 1) rfl) (fun _ => xe_tupL B.tuple_ (xe_var (i := 5) rfl))))))))))
    ) (by exact fun h => h))
def m__law_kind : Exn × Unit → Unit → (((List Text) ⊕ (Text × Int)) → Unit → Prop) → Prop := fun a s0 k =>
  let kinds1 := [(isAsk a.1), (isCorner a.1), (isParting a.1)]; (kinds1.length + ([(isSet a.1)]).length ≤ sizeLine ∧ let kinds3 := (kinds1 ++ [(isSet a.1)]); (if ((!(isAny a.1)) || ((!(isAny a.1)) || (!eqB ((lcD kinds3 true)) (1 : Int)))) = true then let __n := (); k ((Sum.inl ([[111, 116, 104, 101, 114]]))) s0 else let __n := (); (∃ y17, atI kinds3 (1 : Int) = some y17 ∧ (if y17 = true then let __n := (); (∃ y9, a.1 = Exn.corner y9 ∧ k ((Sum.inl ([[99, 111, 114, 110, 101, 114], y9]))) s0) else let __n := (); (∃ y16, atI kinds3 (3 : Int) = some y16 ∧ (if y16 = true then let __n := (); (∃ y15, a.1 = Exn.set y15 ∧ (if false = true then let __n := (); k ((Sum.inl ([[111, 116, 104, 101, 114]]))) s0 else let __n := (); (∃ y14, a.1 = Exn.set y14 ∧ k ((Sum.inr (([115, 101, 116], y14)))) s0))) else let __n := (); False))))))
abbrev sp__law_kind (K : PySem.W.Frag) (C_NoSet : Addr) (C_NoCorner : Addr) (C_NoParting : Addr) (C_NoAsk : Addr) : Sp := SpF Unit (fun ad (a : Exn × Unit) => [fz (pEx ⟨C_NoSet, C_NoCorner, C_NoParting, C_NoAsk⟩) a.1]) (fun _ _ => emp) (fz (pS (pU K pT) (pP K pT pI))) m__law_kind
theorem sc__law_kind : FnScope ["caught", "kinds"] ["caught"] (defScope s__law_kind) := ⟨rfl, rfl, rfl, by decide +kernel, rfl, by decide +kernel, by decide +kernel⟩
theorem ok__law_kind  {f : Addr} {fd : FuncData} (F : Fun K "_law_kind" "_law_kind" s__law_kind f fd) (B : Bl mg)  (EX : EXS K mg C_NoSet C_NoCorner C_NoParting C_NoAsk C_FaceError)   : FnOk P w K mg base CX0 1 f fd ["caught"] (sp__law_kind K C_NoSet C_NoCorner C_NoParting C_NoAsk) :=
  fn_ok F sc__law_kind (fun _ _ => rfl) (fun M ad a s0 HI F0 R => XSs.conv (
    xs_set 1 (xe_fr (xe_lst (ra := pB) (xl_cons (xe_isE (isB := isAsk) EX.F EX.F.kA (.own _) (ex_own EX.ga) B.isinstance_ (xe_var (i := 0) rfl)) (fun _ => xl_cons (xe_isE (isB := isCorner) EX.F EX.F.kC (.own _) (ex_own EX.gc) B.isinstance_ (xe_var (i := 0) rfl)) (fun _ => xl_cons (xe_isE (isB := isParting) EX.F EX.F.kP (.own _) (ex_own EX.gp) B.isinstance_ (xe_var (i := 0) rfl)) (fun _ => xl_nil)))))) (fun kinds1 s2 => xs_set 1 (xe_fr (xe_cat (xe_var (i := 1) rfl) (fun _ => xe_fr (xe_lst (ra := pB) (xl_cons (xe_isE (isB := isSet) EX.F EX.F.kS (.own _) (ex_own EX.gs) B.isinstance_ (xe_var (i := 0) rfl)) (fun _ => xl_nil)))))) (fun kinds3 s4 => xs_if (xt_w (xw_orp (y := ((!(isAny a.1)) || (!eqB ((lcD kinds3 true)) (1 : Int)))) (xt_not (xt_val (xe_isE (isB := isAny) EX.F EX.F.kF (.own _) (ex_own EX.gf) B.isinstance_ (xe_var (i := 0) rfl)))) (fun _ => xw_orp (y := (!eqB ((lcD kinds3 true)) (1 : Int))) (xt_not (xt_val (xe_isE (isB := isAny) EX.F EX.F.kV (.ty _) (ex_blt B.ValueError_ b_VE) B.isinstance_ (xe_var (i := 0) rfl)))) (fun _ => xw_or1 (xt_cmp (xc_ne dI (xe_lcountD dB (xe_var (i := 1) rfl) (fun _ => xe_bl)) (fun _ => xe_int))))))) (fun _ s5 => xs_ret (Same.refl _) (xe_toL (rb := (pP K pT pI)) (xe_tupU (ra := pT) (xl_cons (xe_str [111, 116, 104, 101, 114]) (fun _ => xl_nil))))) (fun s6 => xs_if (xt_val (xe_ixL (xe_var (i := 1) rfl) (fun _ => xe_int))) (fun _ s7 => xs_ret (Same.refl _) (xe_toL (rb := (pP K pT pI)) (xe_tupU (ra := pT) (xl_cons (xe_str [99, 111, 114, 110, 101, 114]) (fun _ => xl_cons (xe_exCorner (C := ⟨C_NoSet, C_NoCorner, C_NoParting, C_NoAsk⟩) EX.xc EX.nc (xe_var (i := 0) rfl)) (fun _ => xl_nil)))))) (fun s8 => xs_if (xt_val (xe_ixL (xe_var (i := 1) rfl) (fun _ => xe_int))) (fun _ s10 => xs_if (xt_val (xe_isa (T := "int") (U := "bool") (b := false) isa_I (by decide +kernel) b_bool B.isinstance_ B.bool_ (xe_exPlace (C := ⟨C_NoSet, C_NoCorner, C_NoParting, C_NoAsk⟩) EX.xs EX.ns (xe_var (i := 0) rfl)))) (fun _ s12 => xs_ret (Same.refl _) (xe_toL (rb := (pP K pT pI)) (xe_tupU (ra := pT) (xl_cons (xe_str [111, 116, 104, 101, 114]) (fun _ => xl_nil))))) (fun s13 => xs_ret (Same.refl _) (xe_toR (ra := (pU K pT)) (xe_tup2 (xe_str [115, 101, 116]) (fun _ => xe_exPlace (C := ⟨C_NoSet, C_NoCorner, C_NoParting, C_NoAsk⟩) EX.xs EX.ns (xe_var (i := 0) rfl)))))) (fun s11 => xs_dead)))))
    ) (by exact fun h => h))
def m__law_sign : Unit → Nat → (Text → Nat → Prop) → Prop := fun a s0 k =>
  ([32, 33, 34, 35, 36, 38, 39, 40, 41, 42, 43, 44, 45, 46, 47, 48, 49, 50, 51, 52, 53, 54, 55, 56, 57, 58, 59, 60, 61, 62, 63, 64, 65, 66, 67, 68, 69, 70, 71, 72, 73, 74, 75, 76, 77, 78, 79, 80, 81, 82, 83, 84, 85, 86, 87, 88, 89, 90, 91, 92, 93, 94, 95, 96, 97, 98, 99, 100, 101, 102, 103, 104, 105, 106, 107, 108, 109, 110, 111, 112, 113, 114, 115, 116, 117, 118, 119, 120, 121, 122, 123, 124, 125, 126, 10].length ≤ sizeLine ∧ nextD (([32, 33, 34, 35, 36, 38, 39, 40, 41, 42, 43, 44, 45, 46, 47, 48, 49, 50, 51, 52, 53, 54, 55, 56, 57, 58, 59, 60, 61, 62, 63, 64, 65, 66, 67, 68, 69, 70, 71, 72, 73, 74, 75, 76, 77, 78, 79, 80, 81, 82, 83, 84, 85, 86, 87, 88, 89, 90, 91, 92, 93, 94, 95, 96, 97, 98, 99, 100, 101, 102, 103, 104, 105, 106, 107, 108, 109, 110, 111, 112, 113, 114, 115, 116, 117, 118, 119, 120, 121, 122, 123, 124, 125, 126, 10].length : Int), ()) s0 (fun r5 s6 => ([32, 33, 34, 35, 36, 38, 39, 40, 41, 42, 43, 44, 45, 46, 47, 48, 49, 50, 51, 52, 53, 54, 55, 56, 57, 58, 59, 60, 61, 62, 63, 64, 65, 66, 67, 68, 69, 70, 71, 72, 73, 74, 75, 76, 77, 78, 79, 80, 81, 82, 83, 84, 85, 86, 87, 88, 89, 90, 91, 92, 93, 94, 95, 96, 97, 98, 99, 100, 101, 102, 103, 104, 105, 106, 107, 108, 109, 110, 111, 112, 113, 114, 115, 116, 117, 118, 119, 120, 121, 122, 123, 124, 125, 126, 10].length ≤ sizeLine ∧ ∃ c4, atI [32, 33, 34, 35, 36, 38, 39, 40, 41, 42, 43, 44, 45, 46, 47, 48, 49, 50, 51, 52, 53, 54, 55, 56, 57, 58, 59, 60, 61, 62, 63, 64, 65, 66, 67, 68, 69, 70, 71, 72, 73, 74, 75, 76, 77, 78, 79, 80, 81, 82, 83, 84, 85, 86, 87, 88, 89, 90, 91, 92, 93, 94, 95, 96, 97, 98, 99, 100, 101, 102, 103, 104, 105, 106, 107, 108, 109, 110, 111, 112, 113, 114, 115, 116, 117, 118, 119, 120, 121, 122, 123, 124, 125, 126, 10] r5 = some c4 ∧ nextD ((3 : Int), ()) s6 (fun r8 s9 => (([48, 49, 42]).length ≤ sizeLine ∧ ∃ c7, atI ([48, 49, 42]) r8 = some c7 ∧ nextD ((2 : Int), ()) s9 (fun r10 s11 => (∃ y3, atI ([[c4], [c7]]) r10 = some y3 ∧ k y3 s11)))))))
abbrev sp__law_sign (K : PySem.W.Frag) : Sp := SpF Addr (fun ad (a : Unit) => [fz pA ad]) (deckN K) (fz pT) m__law_sign
theorem sc__law_sign : FnScope ["deck", "signs"] ["deck"] (defScope s__law_sign) := ⟨rfl, rfl, rfl, by decide +kernel, rfl, by decide +kernel, by decide +kernel⟩
theorem ok__law_sign  {f : Addr} {fd : FuncData} (F : Fun K "_law_sign" "_law_sign" s__law_sign f fd) (B : Bl mg)  (EX : EXS K mg C_NoSet C_NoCorner C_NoParting C_NoAsk C_FaceError)  (h__law_next : Has P w K mg base "_law_next" 2 ["deck", "many"] (spNext K)) : FnOk P w K mg base CX0 3 f fd ["deck"] (sp__law_sign K) :=
  fn_ok F sc__law_sign (fun _ _ => rfl) (fun M ad a s0 HI F0 R => XSs.conv (
    xs_set 1 (xe_str [32, 33, 34, 35, 36, 38, 39, 40, 41, 42, 43, 44, 45, 46, 47, 48, 49, 50, 51, 52, 53, 54, 55, 56, 57, 58, 59, 60, 61, 62, 63, 64, 65, 66, 67, 68, 69, 70, 71, 72, 73, 74, 75, 76, 77, 78, 79, 80, 81, 82, 83, 84, 85, 86, 87, 88, 89, 90, 91, 92, 93, 94, 95, 96, 97, 98, 99, 100, 101, 102, 103, 104, 105, 106, 107, 108, 109, 110, 111, 112, 113, 114, 115, 116, 117, 118, 119, 120, 121, 122, 123, 124, 125, 126, 10]) (fun signs1 s2 => xs_ret (Same.refl _) (xe_ixL (xe_fr (xe_lst (ra := pT) (xl_cons (xe_ixT (xe_var (i := 1) rfl) (fun _ => xe_call h__law_next ad foc_id (xa_adr (i := 0) rfl (fun _ => xa_cons (xe_lenT B.len_ (xe_var (i := 1) rfl)) (fun _ => xa_nil))))) (fun _ => xl_cons (xe_ixT (xe_str [48, 49, 42]) (fun _ => xe_call h__law_next ad foc_id (xa_adr (i := 0) rfl (fun _ => xa_cons (xe_int) (fun _ => xa_nil))))) (fun _ => xl_nil))))) (fun _ => xe_call h__law_next ad foc_id (xa_adr (i := 0) rfl (fun _ => xa_cons (xe_int) (fun _ => xa_nil))))))
    ) (by exact fun h => h))
def m__law_spoilt : Text × Unit → Nat → (Text → Nat → Prop) → Prop := fun a s0 k =>
  nextD ((3 : Int), ()) s0 (fun r31 s32 => ((-(2 ^ 62) ≤ ((1 : Int) + r31) ∧ ((1 : Int) + r31) < 2 ^ 62) ∧ forB (fun k4 (c1 : Text) s5 kn6 kb7 => (c1.length ≤ sizeLine ∧ nextD (((c1.length : Int) + (1 : Int)), ()) s5 (fun r25 s26 => (c1.length ≤ sizeLine ∧ nextD ((3 : Int), ()) s26 (fun r27 s28 => (∃ y24, atI ([r25, (max2 (0 : Int) (((c1.length : Int) - (1 : Int)))), (0 : Int)]) r27 = some y24 ∧ m__law_sign () s28 (fun r22 s23 => (c1.length ≤ sizeLine ∧ (((cutG c1 none (some y24))).length + r22.length ≤ sizeLine ∧ (c1.length ≤ sizeLine ∧ ((((cutG c1 none (some y24)) ++ r22)).length + ((cutG c1 (some y24) none)).length ≤ sizeLine ∧ (c1.length ≤ sizeLine ∧ (((cutG c1 none (some y24))).length + r22.length ≤ sizeLine ∧ (c1.length ≤ sizeLine ∧ ((((cutG c1 none (some y24)) ++ r22)).length + ((cutG c1 (some ((y24 + (1 : Int)))) none)).length ≤ sizeLine ∧ (c1.length ≤ sizeLine ∧ (c1.length ≤ sizeLine ∧ (((cutG c1 none (some y24))).length + ((cutG c1 (some ((y24 + (1 : Int)))) none)).length ≤ sizeLine ∧ (c1.length ≤ sizeLine ∧ let some12 := [(((cutG c1 none (some y24)) ++ r22) ++ (cutG c1 (some y24) none)), (((cutG c1 none (some y24)) ++ r22) ++ (cutG c1 (some ((y24 + (1 : Int)))) none)), ((cutG c1 none (some y24)) ++ (cutG c1 (some ((y24 + (1 : Int)))) none)), (cutG c1 none (some y24))]; (c1.length + c1.length ≤ sizeLine ∧ nextD ((2 : Int), ()) s23 (fun r18 s19 => (([48, 49]).length ≤ sizeLine ∧ ∃ c17, atI ([48, 49]) r18 = some c17 ∧ (c1.length + ([c17]).length ≤ sizeLine ∧ (some12.length + ([(c1 ++ c1), (c1 ++ [c17])]).length ≤ sizeLine ∧ nextD ((6 : Int), ()) s19 (fun r20 s21 => (∃ y16, atI ((some12 ++ [(c1 ++ c1), (c1 ++ [c17])])) r20 = some y16 ∧ kn6 y16 s21)))))))))))))))))))))))))) (fun c29 s30 => (c29.length ≤ sizeLine ∧ k ((cutG c29 none (some (700 : Int)))) s30)) ((rg 0 (((1 : Int) + r31)).toNat)) a.1 s32))
abbrev sp__law_spoilt (K : PySem.W.Frag) : Sp := SpF Addr (fun ad (a : Text × Unit) => [fz pA ad, fz pT a.1]) (deckN K) (fz pT) m__law_spoilt
theorem sc__law_spoilt : FnScope ["deck", "text", "k", "at", "sign", "some"] ["deck", "text"] (defScope s__law_spoilt) := ⟨rfl, rfl, rfl, by decide +kernel, rfl, by decide +kernel, by decide +kernel⟩
theorem ok__law_spoilt  {f : Addr} {fd : FuncData} (F : Fun K "_law_spoilt" "_law_spoilt" s__law_spoilt f fd) (B : Bl mg)  (EX : EXS K mg C_NoSet C_NoCorner C_NoParting C_NoAsk C_FaceError)  (h__law_next : Has P w K mg base "_law_next" 2 ["deck", "many"] (spNext K)) (h__law_sign : Has P w K mg base "_law_sign" 3 ["deck"] (sp__law_sign K)) : FnOk P w K mg base CX0 4 f fd ["deck", "text"] (sp__law_spoilt K) :=
  fn_ok F sc__law_spoilt (fun _ _ => rfl) (fun M ad a s0 HI F0 R => XSs.conv (
    xs_for (fun (c1 : Text) => [some (fz pA ad), some (fz pT c1), none, none, none, none]) a.1 (xi_range1 B.range_ (xe_add (xe_int) (fun _ => xe_call h__law_next ad foc_id (xa_adr (i := 0) rfl (fun _ => xa_cons (xe_int) (fun _ => xa_nil)))))) (xg_name 2) (.keep (.keep (.drop (.drop (.drop (.drop .nil)))))) (fun F2 e3 k4 c1 kn6 kb7 s5 => xs_set 3 (xe_ixL (xe_fr (xe_lst (ra := pI) (xl_cons (xe_call h__law_next ad foc_id (xa_adr (i := 0) rfl (fun _ => xa_cons (xe_add (xe_lenT B.len_ (xe_var (i := 1) rfl)) (fun _ => xe_int)) (fun _ => xa_nil)))) (fun _ => xl_cons (xe_max2 B.max_ (xe_int) (fun _ => xe_sub (xe_lenT B.len_ (xe_var (i := 1) rfl)) (fun _ => xe_int))) (fun _ => xl_cons (xe_int) (fun _ => xl_nil)))))) (fun _ => xe_call h__law_next ad foc_id (xa_adr (i := 0) rfl (fun _ => xa_cons (xe_int) (fun _ => xa_nil))))) (fun at8 s9 => xs_set 4 (xe_call h__law_sign ad foc_id (xa_adr (i := 0) rfl (fun _ => xa_nil))) (fun sign10 s11 => xs_set 5 (xe_fr (xe_lst (ra := pT) (xl_cons (xe_addT (xe_addT (xe_cutT (xe_var (i := 1) rfl) (fun _ => xo_none) (fun _ => xo_some (xe_var (i := 3) rfl))) (fun _ => xe_var (i := 4) rfl)) (fun _ => xe_cutT (xe_var (i := 1) rfl) (fun _ => xo_some (xe_var (i := 3) rfl)) (fun _ => xo_none))) (fun _ => xl_cons (xe_addT (xe_addT (xe_cutT (xe_var (i := 1) rfl) (fun _ => xo_none) (fun _ => xo_some (xe_var (i := 3) rfl))) (fun _ => xe_var (i := 4) rfl)) (fun _ => xe_cutT (xe_var (i := 1) rfl) (fun _ => xo_some (xe_add (xe_var (i := 3) rfl) (fun _ => xe_int))) (fun _ => xo_none))) (fun _ => xl_cons (xe_addT (xe_cutT (xe_var (i := 1) rfl) (fun _ => xo_none) (fun _ => xo_some (xe_var (i := 3) rfl))) (fun _ => xe_cutT (xe_var (i := 1) rfl) (fun _ => xo_some (xe_add (xe_var (i := 3) rfl) (fun _ => xe_int))) (fun _ => xo_none))) (fun _ => xl_cons (xe_cutT (xe_var (i := 1) rfl) (fun _ => xo_none) (fun _ => xo_some (xe_var (i := 3) rfl))) (fun _ => xl_nil))))))) (fun some12 s13 => xs_set 1 (xe_ixL (xe_fr (xe_cat (xe_var (i := 5) rfl) (fun _ => xe_fr (xe_lst (ra := pT) (xl_cons (xe_addT (xe_var (i := 1) rfl) (fun _ => xe_var (i := 1) rfl)) (fun _ => xl_cons (xe_addT (xe_var (i := 1) rfl) (fun _ => xe_ixT (xe_str [48, 49]) (fun _ => xe_call h__law_next ad foc_id (xa_adr (i := 0) rfl (fun _ => xa_cons (xe_int) (fun _ => xa_nil)))))) (fun _ => xl_nil))))))) (fun _ => xe_call h__law_next ad foc_id (xa_adr (i := 0) rfl (fun _ => xa_cons (xe_int) (fun _ => xa_nil))))) (fun text14 s15 => xs_nil text14 (.keep (.keep (.drop (.drop (.drop (.drop .nil))))))))))) (fun c29 s30 => xs_ret (Same.refl _) (xe_cutT (xe_var (i := 1) rfl) (fun _ => xo_none) (fun _ => xo_some (xe_int))))
    ) (by exact fun h => h))
def m__law_due : Text × Unit → Unit → (((Text × Int) ⊕ (Int × (List Text))) → Unit → Prop) → Prop := fun a s0 k =>
  (a.1.length ≤ sizeLine ∧ ((-(2 ^ 62) ≤ (a.1.length : Int) ∧ (a.1.length : Int) < 2 ^ 62) ∧ forB (fun place4 (c1 : Unit) s5 kn6 kb7 => jn (fun k10 => (a.1.length ≤ sizeLine ∧ ∃ c13, atI a.1 place4 = some c13 ∧ (if (!eqB ([c13]) ([48])) = true then (a.1.length ≤ sizeLine ∧ ∃ c14, atI a.1 place4 = some c14 ∧ k10 ((!eqB ([c14]) ([49]))) s5) else k10 false s5))) (fun b11 s12 => (if b11 = true then let __n := (); k ((Sum.inl (([115, 101, 116], place4)))) s12 else let __n := (); kn6 (()) s12))) (fun c15 s16 => (([((2 : Int), (1 : Int)), ((4 : Int), (2 : Int)), ((8 : Int), (3 : Int)), ((16 : Int), (4 : Int)), ((32 : Int), (5 : Int)), ((64 : Int), (6 : Int))] : List (Int × Int)).length ≤ 15 ∧ (a.1.length ≤ sizeLine ∧ let bits17 := ((dget ((dmerge [((2 : Int), (1 : Int)), ((4 : Int), (2 : Int)), ((8 : Int), (3 : Int)), ((16 : Int), (4 : Int)), ((32 : Int), (5 : Int)), ((64 : Int), (6 : Int))])) ((a.1.length : Int))).getD (0 : Int)); (if (eqB bits17 (0 : Int)) = true then let __n := (); (a.1.length ≤ sizeLine ∧ k ((Sum.inl (([115, 101, 116], (a.1.length : Int))))) s16) else let __n := (); m__law_all (bits17, ()) () (fun r26 _ => (((r26.zip ((sgs a.1)))).length ≤ sizeLine ∧ compW (fun corner21 s22 k24 => (if (eqB corner21.2 ([49])) = true then k24 (some corner21.1) s22 else k24 none s22)) (fun ys25 s23 => k ((Sum.inr ((bits17, ys25)))) s23) ((r26.zip ((sgs a.1)))) s16 [])))))) ((rg 0 ((a.1.length : Int)).toNat)) (()) s0))
abbrev sp__law_due (K : PySem.W.Frag) : Sp := SpF Unit (fun ad (a : Text × Unit) => [fz pT a.1]) (fun _ _ => emp) (fz (pS (pP K pT pI) (pP K pI (pU K pT)))) m__law_due
theorem sc__law_due : FnScope ["text", "place", "bits", "corner", "sign"] ["text"] (defScope s__law_due) := ⟨rfl, rfl, rfl, by decide +kernel, rfl, by decide +kernel, by decide +kernel⟩
theorem ok__law_due  {f : Addr} {fd : FuncData} (F : Fun K "_law_due" "_law_due" s__law_due f fd) (B : Bl mg)  (EX : EXS K mg C_NoSet C_NoCorner C_NoParting C_NoAsk C_FaceError)  (h__law_all : Has P w K mg base "_law_all" 1 ["bits"] (sp__law_all K)) : FnOk P w K mg base CX0 2 f fd ["text"] (sp__law_due K) :=
  fn_ok F sc__law_due (fun _ _ => rfl) (fun M ad a s0 HI F0 R => XSs.conv (
    xs_for (fun (c1 : Unit) => [some (fz pT a.1), none, none, none, none]) () (xi_range1 B.range_ (xe_lenT B.len_ (xe_var (i := 0) rfl))) (xg_name 1) (.keep (.drop (.drop (.drop (.drop .nil))))) (fun F2 e3 place4 c1 kn6 kb7 s5 => xs_if (xt_w (xw_and (xt_cmp (xc_ne dT (xe_ixT (xe_var (i := 0) rfl) (fun _ => xe_var (i := 1) rfl)) (fun _ => xe_str [48]))) (fun _ => xw_and1 (xt_cmp (xc_ne dT (xe_ixT (xe_var (i := 0) rfl) (fun _ => xe_var (i := 1) rfl)) (fun _ => xe_str [49])))))) (fun _ s8 => xs_ret e3 (xe_toL (rb := (pP K pI (pU K pT))) (xe_tup2 (xe_str [115, 101, 116]) (fun _ => xe_var (i := 1) rfl)))) (fun s9 => xs_nil () (.keep (.drop (.drop (.drop (.drop .nil))))))) (fun c15 s16 => xs_set 2 (xe_dgetd (xe_frD (xe_disp (ky := kyI) (rv := pI) (xp_cons (xe_int) (fun _ => xe_int) (fun _ => xp_cons (xe_int) (fun _ => xe_int) (fun _ => xp_cons (xe_int) (fun _ => xe_int) (fun _ => xp_cons (xe_int) (fun _ => xe_int) (fun _ => xp_cons (xe_int) (fun _ => xe_int) (fun _ => xp_cons (xe_int) (fun _ => xe_int) (fun _ => xp_nil))))))))) (fun _ => xe_lenT B.len_ (xe_var (i := 0) rfl)) (fun _ => xe_int)) (fun bits17 s18 => xs_if (xt_cmp (xc_eq dI (xe_var (i := 2) rfl) (fun _ => xe_int))) (fun _ s19 => xs_ret (Same.refl _) (xe_toL (rb := (pP K pI (pU K pT))) (xe_tup2 (xe_str [115, 101, 116]) (fun _ => xe_lenT B.len_ (xe_var (i := 0) rfl))))) (fun s20 => xs_ret (Same.refl _) (xe_toR (ra := (pP K pT pI)) (xe_tup2 (xe_var (i := 2) rfl) (fun _ => xe_tupL B.tuple_ (xe_fr (xe_lcif [("corner", 3), ("sign", 4)] (xi_zip B.zip_ drw_L drw_T (xe_call h__law_all () foc_emp (xa_cons (xe_var (i := 2) rfl) (fun _ => xa_nil))) (fun _ => xe_var (i := 0) rfl)) (xg_tup2 (xg_name 3) (xg_name 4)) (fun corner21 s22 => xts_one (xt_cmp (xc_eq dT (xe_var (i := 4) rfl) (fun _ => xe_str [49])))) (fun corner21 s22 => xe_var (i := 3) rfl)))))))))
    ) (by exact fun h => h))
def m__law_right : Text × Unit → Unit → (Bool → Unit → Prop) → Prop := fun a s0 k =>
  m__law_due (a.1, ()) () (fun r45 _ => ((-(2 ^ 62) ≤ (2 : Int) ∧ (2 : Int) < 2 ^ 62) ∧ forB (fun again6 (c3 : Unit) s7 kn8 kb9 => let found10 := (none : Option (Int × (List Text))); let caught12 := (none : Option Exn); jn (fun (kj14 : (Option (Int × (List Text))) × (Option Exn) → _ → Prop) => m_read_set (a.1, ()) () (fun r21 _ => let found19 := (some r21); kj14 ((found19, caught12)) s7) (fun ex22 _ => kj14 ((found10, (some ex22))) s7)) (fun z15 s23 => jn (fun (kj24 : Unit → _ → Prop) => (if (eqB ((fstS r45)) ((Sum.inl ([115, 101, 116])))) = true then let __ := (); jn (fun k30 => (if z15.2.isNone = true then k30 true s23 else (∃ y33, z15.2 = some y33 ∧ m__law_kind (y33, ()) () (fun r34 _ => (∃ y35, r45 = Sum.inl y35 ∧ k30 ((!eqB r34 ((Sum.inr y35)))) s23))))) (fun b31 s32 => (if b31 = true then let __n := (); k false s32 else let __n := (); kj24 (()) s32)) else let __ := (); jn (fun k38 => (if (!(z15.1.isSome && true)) = true then k38 true s23 else (∃ y41, z15.1 = some y41 ∧ k38 ((!eqB ((Sum.inr y41)) r45)) s23))) (fun b39 s40 => (if b39 = true then let __n := (); k false s40 else let __n := (); kj24 (()) s40)))) (fun z42 s27 => kn8 (()) s27))) (fun c43 s44 => k true s44) ((rg 0 (2 : Int).toNat)) (()) s0))
abbrev sp__law_right (K : PySem.W.Frag) : Sp := SpF Unit (fun ad (a : Text × Unit) => [fz pT a.1]) (fun _ _ => emp) (fz pB) m__law_right
theorem sc__law_right : FnScope ["text", "due", "again", "found", "caught", "e"] ["text"] (defScope s__law_right) := ⟨rfl, rfl, rfl, by decide +kernel, rfl, by decide +kernel, by decide +kernel⟩
theorem ok__law_right  {f : Addr} {fd : FuncData} (F : Fun K "_law_right" "_law_right" s__law_right f fd) (B : Bl mg)  (EX : EXS K mg C_NoSet C_NoCorner C_NoParting C_NoAsk C_FaceError)  (h__law_due : Has P w K mg base "_law_due" 2 ["text"] (sp__law_due K)) (h_read_set : HasX P w K mg base "read_set" 3 ["text"] (sp_read_set K C_NoSet C_NoCorner C_NoParting C_NoAsk)) (h__law_kind : Has P w K mg base "_law_kind" 1 ["caught"] (sp__law_kind K C_NoSet C_NoCorner C_NoParting C_NoAsk)) : FnOk P w K mg base CX0 4 f fd ["text"] (sp__law_right K) :=
  fn_okTop F sc__law_right (fun _ _ => rfl) (fun M ad a s0 HI F0 R TOP => XSs.conv (
    xs_set 1 (xe_call h__law_due () foc_emp (xa_cons (xe_var (i := 0) rfl) (fun _ => xa_nil))) (fun due1 s2 => xs_for (fun (c3 : Unit) => [some (fz pT a.1), some (fz (pS (pP K pT pI) (pP K pI (pU K pT))) due1), none, none, none, none]) () (xi_range1 B.range_ (xe_int)) (xg_name 2) (.keep (.keep (.drop (.drop (.drop (.drop .nil)))))) (fun F4 e5 again6 c3 kn8 kb9 s7 => xs_set 3 (xe_none (ra := (pP K pI (pU K pT))) (xe_non)) (fun found10 s11 => xs_set 4 (xe_none (ra := (pEx ⟨C_NoSet, C_NoCorner, C_NoParting, C_NoAsk⟩)) (xe_non)) (fun caught12 s13 => xs_tryK (i := 5) (iy := 4) (C := ⟨C_NoSet, C_NoCorner, C_NoParting, C_NoAsk⟩) (fun (z15 : (Option (Int × (List Text))) × (Option Exn)) => [some (fz pT a.1), some (fz (pS (pP K pT pI) (pP K pI (pU K pT))) due1), some (fz pI again6), some (fz (pO (pP K pI (pU K pT))) z15.1), some (fz (pO (pEx ⟨C_NoSet, C_NoCorner, C_NoParting, C_NoAsk⟩)) z15.2), none]) (fun ex16 => (found10, (some ex16))) TOP EX.gf EX.F.yes rfl (fun _ => rfl) (fun ex16 => (.keep (.keep (.keep (.keep (.keep (.drop .nil))))))) (fun W kj14 RZ18 => xs_setR 3 RZ18 (.keep (.keep (.keep (.keep (.keep (.drop .nil)))))) (xr_some (xr_call (C := ⟨C_NoSet, C_NoCorner, C_NoParting, C_NoAsk⟩) h_read_set () foc_emp (xa_cons (xe_var (i := 0) rfl) (fun _ => xa_nil))) nn_P) (fun found19 s20 => xs_nil (found19, caught12) (.keep (.keep (.keep (.keep (.keep (.drop .nil)))))))) (fun z15 s23 => xs_ifj (fun (z42 : Unit) => [some (fz pT a.1), some (fz (pS (pP K pT pI) (pP K pI (pU K pT))) due1), some (fz pI again6), some (fz (pO (pP K pI (pU K pT))) z15.1), some (fz (pO (pEx ⟨C_NoSet, C_NoCorner, C_NoParting, C_NoAsk⟩)) z15.2), none]) (xt_cmp (xc_eq (dS dT dI ap_TI) (xe_fstS (xe_var (i := 1) rfl)) (fun _ => xe_toL (rb := pI) (xe_str [115, 101, 116])))) (fun kj24 s25 => xs_if (xt_w (xw_or (xt_cmp (xc_isN (xe_var (i := 4) rfl) (fun _ => xe_non))) (fun _ => xw_or1 (xt_cmp (xc_ne (dS (dU dT) (dP dT dI) (ap_UP ap_TI)) (xe_call h__law_kind () foc_emp (xa_cons (xe_ofSome (xe_var (i := 4) rfl)) (fun _ => xa_nil))) (fun _ => xe_toR (ra := (pU K pT)) (xe_ofL (xe_var (i := 1) rfl)))))))) (fun _ s28 => xs_ret e5 (xe_bl)) (fun s29 => xs_nil () (.keep (.keep (.keep (.keep (.keep (.drop .nil)))))))) (fun kj24 s26 => xs_if (xt_w (xw_or (xt_not (xt_val (xe_isaO (T := "tuple") (U := "tuple") (b := true) isa_P (by decide +kernel) (by decide +kernel) b_tuple B.isinstance_ B.tuple_ (xe_var (i := 3) rfl)))) (fun _ => xw_or1 (xt_cmp (xc_ne (dS (dP dT dI) (dP dI (dU dT)) (ap_PP ap_TI)) (xe_toR (ra := (pP K pT pI)) (xe_ofSome (xe_var (i := 3) rfl))) (fun _ => xe_var (i := 1) rfl)))))) (fun _ s36 => xs_ret e5 (xe_bl)) (fun s37 => xs_nil () (.keep (.keep (.keep (.keep (.keep (.drop .nil)))))))) (fun z42 s27 => xs_nil () (.keep (.keep (.drop (.drop (.drop (.drop .nil))))))))))) (fun c43 s44 => xs_ret (Same.refl _) (xe_bl)))
    ) (by exact fun h => h))
def m_law : (List Int) × Unit → Unit → (Bool → Unit → Prop) → Prop := fun a s0 k =>
  m__law_deck (a.1, ()) () (fun r93 _ => (deckI (0 : Nat) r93 ∧ ((-(2 ^ 62) ≤ (6 : Int) ∧ (6 : Int) < 2 ^ 62) ∧ forB (fun turn7 (c4 : Unit) s8 kn9 kb10 => m__law_bits () s8 (fun r63 s64 => m__law_set (r63, ()) s64 (fun r65 s66 => m__law_all (r65.1, ()) () (fun r62 _ => (r62.length ≤ sizeLine ∧ compW (fun corner13 s14 k16 => (([48, 49]).length ≤ sizeLine ∧ ∃ c60, atI ([48, 49]) ((if (memB corner13 r65.2) then 1 else 0 : Int)) = some c60 ∧ k16 (some ([c60])) s14)) (fun ys61 s15 => ((ys61.map (·.length)).sum + ys61.length * ([] : Text).length ≤ 16777216 ∧ let text17 := (joinT ([] : Text) ys61); ((-(2 ^ 62) ≤ (6 : Int) ∧ (6 : Int) < 2 ^ 62) ∧ (((rg 0 (6 : Int).toNat)).length ≤ sizeLine ∧ compW (fun k19 s20 k22 => m__law_spoilt (text17, ()) s20 (fun r57 s58 => k22 (some r57) s58)) (fun ys59 s21 => (([32]).length + text17.length ≤ sizeLine ∧ (text17.length + ([32]).length ≤ sizeLine ∧ (text17.length + ([10]).length ≤ sizeLine ∧ (text17.length + text17.length ≤ sizeLine ∧ (text17.length ≤ sizeLine ∧ (text17.length + ([48]).length ≤ sizeLine ∧ (ys59.length + ([([32] ++ text17), (text17 ++ [32]), (text17 ++ [10]), (text17 ++ text17), (cutG text17 none (some ((-(1 : Int))))), (text17 ++ [48]), text17]).length ≤ sizeLine ∧ let some25 := (ys59 ++ [([32] ++ text17), (text17 ++ [32]), (text17 ++ [10]), (text17 ++ text17), (cutG text17 none (some ((-(1 : Int))))), (text17 ++ [48]), text17]); nextD ((67 : Int), ()) s21 (fun r51 s52 => nextD ((701 : Int), ()) s52 (fun r53 s54 => nextD ((6 : Int), ()) s54 (fun r55 s56 => (∃ y50, atI ([r51, r53, (2 : Int), (64 : Int), (128 : Int), (700 : Int)]) r55 = some y50 ∧ ((-(2 ^ 62) ≤ y50 ∧ y50 < 2 ^ 62) ∧ (((rg 0 y50.toNat)).length ≤ sizeLine ∧ compW (fun k31 s32 k34 => nextD ((2 : Int), ()) s32 (fun r47 s48 => (([48, 49]).length ≤ sizeLine ∧ ∃ c46, atI ([48, 49]) r47 = some c46 ∧ k34 (some ([c46])) s48))) (fun ys49 s33 => ((ys49.map (·.length)).sum + ys49.length * ([] : Text).length ≤ 16777216 ∧ (some25.length < sizeLine ∧ let some35 := (some25 ++ [(joinT ([] : Text) ys49)]); m__law_sign () s33 (fun r44 s45 => (some35.length + ([r44]).length ≤ sizeLine ∧ (((some35 ++ [r44])).length ≤ sizeLine ∧ compW (fun odd36 s37 k39 => m__law_right (odd36, ()) () (fun r42 _ => (if (!r42) = true then k39 (some odd36) s37 else k39 none s37))) (fun ys43 s38 => (if (!eqB ys43 (([] : List Text))) = true then let __n := (); k false (()) else let __n := (); kn9 (()) s38)) ((some35 ++ [r44])) s45 [])))))) ((rg 0 y50.toNat)) s56 [])))))))))))))) ((rg 0 (6 : Int).toNat)) s15 [])))) r62 s66 []))))) (fun c67 s68 => (MulOk ([120]) (60 : Int) ∧ (((mulT ([120]) (60 : Int))).length + ([10]).length ≤ sizeLine ∧ nextD ((4 : Int), ()) s68 (fun r91 s92 => (∃ y90, atI ([[32, 78, 111, 32, 115, 117, 99, 104, 58, 32, 55], ([] : Text), [97, 32, 32, 66], ((mulT ([120]) (60 : Int)) ++ [10])]) r91 = some y90 ∧ (MulOk ([y90]) (2 : Int) ∧ (if (!eqB ([y90, y90]) ((mulT ([y90] : List Text) (2 : Int)))) = true then let __n := (); k false (()) else let __n := (); jn (fun k81 => m_NoSet___init__ ((7 : Int), ()) XIn.raw (fun _ i84 => ∃ z85, i84 = XIn.full z85 ∧ m__law_kind ((Exn.set z85), ()) () (fun r86 _ => (if (!eqB r86 ((Sum.inr (([115, 101, 116], (7 : Int)))))) = true then k81 true s92 else m_NoCorner___init__ ([48, 49], ()) XIn.raw (fun _ i87 => ∃ z88, i87 = XIn.full z88 ∧ m__law_kind ((Exn.corner z88), ()) () (fun r89 _ => k81 ((!eqB r89 ((Sum.inl ([[99, 111, 114, 110, 101, 114], [48, 49]]))))) s92)))))) (fun b82 s83 => (if b82 = true then let __n := (); k false (()) else let __n := (); (MulOk ([126]) (700 : Int) ∧ (([([] : Text), [48], [49], [48, 48], [48, 48, 48], [48, 32, 48, 49], [48, 49, 32, 48], [50], (mulT ([126]) (700 : Int))]).length ≤ sizeLine ∧ compW (fun text75 s76 k78 => m__law_right (text75, ()) () (fun r79 _ => (if (!r79) = true then k78 (some text75) s76 else k78 none s76))) (fun ys80 s77 => k ((eqB ys80 (([] : List Text)))) (())) ([([] : Text), [48], [49], [48, 48], [48, 48, 48], [48, 32, 48, 49], [48, 49, 32, 48], [50], (mulT ([126]) (700 : Int))]) s83 []))))))))))) ((rg 0 (6 : Int).toNat)) (()) ((0 : Nat)))))
abbrev sp_law (K : PySem.W.Frag) : Sp := SpF Unit (fun ad (a : (List Int) × Unit) => [fz (pL K pI) a.1]) (fun _ _ => emp) (fz pB) m_law
theorem sc_law : FnScope ["script", "deck", "turn", "bits", "corners", "text", "corner", "some", "k", "free", "odd", "said"] ["script"] (defScope s_law) := ⟨rfl, rfl, rfl, by decide +kernel, rfl, by decide +kernel, by decide +kernel⟩
theorem ok_law  {f : Addr} {fd : FuncData} (F : Fun K "law" "law" s_law f fd) (B : Bl mg)  (EX : EXS K mg C_NoSet C_NoCorner C_NoParting C_NoAsk C_FaceError)  (h__law_deck : Has P w K mg base "_law_deck" 1 ["script"] (sp__law_deck K)) (h__law_set : Has P w K mg base "_law_set" 4 ["deck", "bits"] (sp__law_set K)) (h__law_bits : Has P w K mg base "_law_bits" 3 ["deck"] (sp__law_bits K)) (h__law_all : Has P w K mg base "_law_all" 1 ["bits"] (sp__law_all K)) (h__law_spoilt : Has P w K mg base "_law_spoilt" 4 ["deck", "text"] (sp__law_spoilt K)) (h__law_next : Has P w K mg base "_law_next" 2 ["deck", "many"] (spNext K)) (h__law_sign : Has P w K mg base "_law_sign" 3 ["deck"] (sp__law_sign K)) (h__law_right : Has P w K mg base "_law_right" 4 ["text"] (sp__law_right K)) (h__law_kind : Has P w K mg base "_law_kind" 1 ["caught"] (sp__law_kind K C_NoSet C_NoCorner C_NoParting C_NoAsk)) (h_NoSet___init__ : HasI P w K mg base "NoSet" C_NoSet 1 ["self", "place"] (sp_NoSet___init__ K C_NoSet)) (h_NoCorner___init__ : HasI P w K mg base "NoCorner" C_NoCorner 1 ["self", "corner"] (sp_NoCorner___init__ K C_NoCorner)) : FnOk P w K mg base CX0 5 f fd ["script"] (sp_law K) :=
  fn_okTop F sc_law (fun _ _ => rfl) (fun M ad a s0 HI F0 R TOP => XSs.conv (
    xs_set 1 (xe_call h__law_deck () foc_emp (xa_cons (xe_var (i := 0) rfl) (fun _ => xa_nil))) (fun deck1 s2 => xs_adoptF 1 deckI (0 : Nat) rfl (fun ad3 => xs_for (fun (c4 : Unit) => [some (fz (pL K pI) a.1), some (fz pA ad3), none, none, none, none, none, none, none, none, none, none]) () (xi_range1 B.range_ (xe_int)) (xg_name 2) (.keep (.keep (.drop (.drop (.drop (.drop (.drop (.drop (.drop (.drop (.drop (.drop .nil)))))))))))) (fun F5 e6 turn7 c4 kn9 kb10 s8 => xs_asg (xe_call h__law_set ad3 foc_id (xa_adr (i := 1) rfl (fun _ => xa_cons (xe_call h__law_bits ad3 foc_id (xa_adr (i := 1) rfl (fun _ => xa_nil))) (fun _ => xa_nil)))) (xg_tup2 (xg_name 3) (xg_name 4)) (fun p11 s12 => xs_set 5 (xe_joinL (xe_str ([] : Text)) (fun _ => xe_fr (xe_lc [("corner", 6)] (xi_list (xe_call h__law_all () foc_emp (xa_cons (xe_var (i := 3) rfl) (fun _ => xa_nil)))) (xg_name 6) (fun corner13 s14 => xe_ixT (xe_str [48, 49]) (fun _ => xe_intB B.int_ (xe_cmp (xc_inU fT (xe_var (i := 6) rfl) (fun _ => xe_var (i := 4) rfl)))))))) (fun text17 s18 => xs_setLc0 7 [("k", 8)] (xi_range1 B.range_ (xe_int)) (xg_name 8) (fun k19 s20 => xe_call h__law_spoilt ad3 foc_id (xa_adr (i := 1) rfl (fun _ => xa_cons (xe_var (i := 5) rfl) (fun _ => xa_nil)))) (fun some23 s24 => xs_set 7 (xe_peekL (wd := fun k => (([32]).length + text17.length ≤ sizeLine ∧ (text17.length + ([32]).length ≤ sizeLine ∧ (text17.length + ([10]).length ≤ sizeLine ∧ (text17.length + text17.length ≤ sizeLine ∧ (text17.length ≤ sizeLine ∧ (text17.length + ([48]).length ≤ sizeLine ∧ (some23.length + ([([32] ++ text17), (text17 ++ [32]), (text17 ++ [10]), (text17 ++ text17), (cutG text17 none (some ((-(1 : Int))))), (text17 ++ [48]), text17]).length ≤ sizeLine ∧ k ((some23 ++ [([32] ++ text17), (text17 ++ [32]), (text17 ++ [10]), (text17 ++ text17), (cutG text17 none (some ((-(1 : Int))))), (text17 ++ [48]), text17])))))))))) (.fz (.fz (.fz (.fz (.fz (.fz (.no (.ol (.no (.no (.no (.no .nil)))))))))))) fl_T (xe_cat (xe_var (i := 7) rfl) (fun _ => xe_fr (xe_lst (ra := pT) (xl_cons (xe_addT (xe_str [32]) (fun _ => xe_var (i := 5) rfl)) (fun _ => xl_cons (xe_addT (xe_var (i := 5) rfl) (fun _ => xe_str [32])) (fun _ => xl_cons (xe_addT (xe_var (i := 5) rfl) (fun _ => xe_str [10])) (fun _ => xl_cons (xe_addT (xe_var (i := 5) rfl) (fun _ => xe_var (i := 5) rfl)) (fun _ => xl_cons (xe_cutT (xe_var (i := 5) rfl) (fun _ => xo_none) (fun _ => xo_some (xe_neg (xe_int)))) (fun _ => xl_cons (xe_addT (xe_var (i := 5) rfl) (fun _ => xe_str [48])) (fun _ => xl_cons (xe_var (i := 5) rfl) (fun _ => xl_nil)))))))))))) (fun some25 s26 => xs_set 9 (xe_ixL (xe_fr (xe_lst (ra := pI) (xl_cons (xe_call h__law_next ad3 foc_id (xa_adr (i := 1) rfl (fun _ => xa_cons (xe_int) (fun _ => xa_nil)))) (fun _ => xl_cons (xe_call h__law_next ad3 foc_id (xa_adr (i := 1) rfl (fun _ => xa_cons (xe_int) (fun _ => xa_nil)))) (fun _ => xl_cons (xe_int) (fun _ => xl_cons (xe_int) (fun _ => xl_cons (xe_int) (fun _ => xl_cons (xe_int) (fun _ => xl_nil))))))))) (fun _ => xe_call h__law_next ad3 foc_id (xa_adr (i := 1) rfl (fun _ => xa_cons (xe_int) (fun _ => xa_nil))))) (fun free27 s28 => xs_append 7 rfl (xe_joinL (xe_str ([] : Text)) (fun _ => xe_fr (xe_lc [("k", 8)] (xi_range1 B.range_ (xe_var (i := 9) rfl)) (xg_name 8) (fun k31 s32 => xe_ixT (xe_str [48, 49]) (fun _ => xe_call h__law_next ad3 foc_id (xa_adr (i := 1) rfl (fun _ => xa_cons (xe_int) (fun _ => xa_nil)))))))) (fun y29 s30 => xs_freeze 7 rfl (xs_if (xt_cmp (xc_ne (dL dT) (xe_fr (xe_lcif [("odd", 10)] (xi_list (xe_fr (xe_cat (xe_var (i := 7) rfl) (fun _ => xe_fr (xe_lst (ra := pT) (xl_cons (xe_call h__law_sign ad3 foc_id (xa_adr (i := 1) rfl (fun _ => xa_nil))) (fun _ => xl_nil))))))) (xg_name 10) (fun odd36 s37 => xts_one (xt_not (xt_val (xe_call h__law_right () foc_emp (xa_cons (xe_var (i := 10) rfl) (fun _ => xa_nil)))))) (fun odd36 s37 => xe_var (i := 10) rfl))) (fun _ => xe_fr (xe_lst (ra := pT) (xl_nil))))) (fun _ s40 => xs_ret e6 (xe_bl)) (fun s41 => xs_nil () (.keep (.keep (.drop (.drop (.drop (.drop (.drop (.drop (.drop (.drop (.drop (.drop .nil))))))))))))))))))))) (fun c67 s68 => xs_set 11 (xe_ixL (xe_fr (xe_lst (ra := pT) (xl_cons (xe_str [32, 78, 111, 32, 115, 117, 99, 104, 58, 32, 55]) (fun _ => xl_cons (xe_str ([] : Text)) (fun _ => xl_cons (xe_str [97, 32, 32, 66]) (fun _ => xl_cons (xe_addT (xe_mulT (xe_str [120]) (fun _ => xe_int)) (fun _ => xe_str [10])) (fun _ => xl_nil))))))) (fun _ => xe_call h__law_next ad3 foc_id (xa_adr (i := 1) rfl (fun _ => xa_cons (xe_int) (fun _ => xa_nil))))) (fun said69 s70 => xs_if (xt_cmp (xc_ne (dL dT) (xe_fr (xe_lst (ra := pT) (xl_cons (xe_strX TOP B.str_ EX.qa rfl EX.ga EX.ka EX.sa EX.ba (xe_var (i := 11) rfl)) (fun _ => xl_cons (xe_strX TOP B.str_ EX.qp rfl EX.gp EX.kp EX.sp EX.bp (xe_var (i := 11) rfl)) (fun _ => xl_nil))))) (fun _ => xe_fr (xe_mulL (xe_lst (ra := pT) (xl_cons (xe_var (i := 11) rfl) (fun _ => xl_nil))) (fun _ => xe_int))))) (fun _ s71 => xs_ret (Same.refl _) (xe_bl)) (fun s72 => xs_if (xt_w (xw_or (xt_cmp (xc_ne (dS (dU dT) (dP dT dI) (ap_UP ap_TI)) (xe_call h__law_kind () foc_emp (xa_cons (xe_mkI (C := ⟨C_NoSet, C_NoCorner, C_NoParting, C_NoAsk⟩) (con := Exn.set) h_NoSet___init__ fl_I0 hexS (xe_int)) (fun _ => xa_nil))) (fun _ => xe_toR (ra := (pU K pT)) (xe_tup2 (xe_str [115, 101, 116]) (fun _ => xe_int))))) (fun _ => xw_or1 (xt_cmp (xc_ne (dS (dU dT) (dP dT dI) (ap_UP ap_TI)) (xe_call h__law_kind () foc_emp (xa_cons (xe_mkI (C := ⟨C_NoSet, C_NoCorner, C_NoParting, C_NoAsk⟩) (con := Exn.corner) h_NoCorner___init__ fl_T0 hexC (xe_str [48, 49])) (fun _ => xa_nil))) (fun _ => xe_toL (rb := (pP K pT pI)) (xe_tupU (ra := pT) (xl_cons (xe_str [99, 111, 114, 110, 101, 114]) (fun _ => xl_cons (xe_str [48, 49]) (fun _ => xl_nil)))))))))) (fun _ s73 => xs_ret (Same.refl _) (xe_bl)) (fun s74 => xs_ret (Same.refl _) (xe_cmp (xc_eq (dL dT) (xe_fr (xe_lcif [("text", 5)] (xi_list (xe_fr (xe_lst (ra := pT) (xl_cons (xe_str ([] : Text)) (fun _ => xl_cons (xe_str [48]) (fun _ => xl_cons (xe_str [49]) (fun _ => xl_cons (xe_str [48, 48]) (fun _ => xl_cons (xe_str [48, 48, 48]) (fun _ => xl_cons (xe_str [48, 32, 48, 49]) (fun _ => xl_cons (xe_str [48, 49, 32, 48]) (fun _ => xl_cons (xe_str [50]) (fun _ => xl_cons (xe_mulT (xe_str [126]) (fun _ => xe_int)) (fun _ => xl_nil))))))))))))) (xg_name 5) (fun text75 s76 => xts_one (xt_not (xt_val (xe_call h__law_right () foc_emp (xa_cons (xe_var (i := 5) rfl) (fun _ => xa_nil)))))) (fun text75 s76 => xe_var (i := 5) rfl))) (fun _ => xe_fr (xe_lst (ra := pT) (xl_nil)))))))))))
    ) (by exact fun h => h))
end
end G

set_option Elab.async false
set_option linter.all false
set_option maxRecDepth 100000
set_option maxHeartbeats 4000000
namespace G
open PySem PySem.Spec PyProof.Rows L2 Sm
open Fc Tb Od Pt
theorem hz1000 {z : Nat} (q : z ≤ 1000) : z ≤ sizeLine := Nat.le_trans q (by decide)
theorem p64 {b : Nat} (h : b ≤ 6) : 2 ^ b ≤ 64 := by
  have : b = 0 ∨ b = 1 ∨ b = 2 ∨ b = 3 ∨ b = 4 ∨ b = 5 ∨ b = 6 := by omega
  rcases this with rfl | rfl | rfl | rfl | rfl | rfl | rfl <;> decide
theorem e2b (b : Nat) : (1 : Int) * 2 ^ ((b : Int)).toNat = ((2 ^ b : Nat) : Int) := by simp
theorem cp1 {n : Int} (h0 : 0 ≤ n) (h1 : n ≤ 1000) : CPow 1 n := ⟨h0, by omega, by decide⟩
theorem single_len {acc : List Text} (h : ∀ y ∈ acc, y.length = 1) : (acc.map (·.length)).sum = acc.length := by
  induction acc with
  | nil => rfl
  | cons y acc ih =>
    rw [List.map_cons, List.sum_cons, ih fun z hz => h z (List.mem_cons_of_mem _ hz), h y List.mem_cons_self, List.length_cons]; omega
theorem star_text (b : Nat) : mulT ([42] : Text) (b : Int) = List.replicate b 42 := by
  unfold mulT
  rw [Int.toNat_natCast]
  induction b with
  | zero => rfl
  | succ n ih => rw [List.replicate_succ, List.flatten_cons, ih, List.replicate_succ]; rfl

theorem corner_comp {x : Int} {b : Nat} {k : List Text → Unit → Prop} (hb : b ≤ 64) (h : ∀ ys : List Text, (ys.map (·.length)).sum + ys.length * ([] : Text).length ≤ 16777216 → joinT ([] : Text) ys = cN b x → k ys ()) :
    compW (fun (k1 : Int) (s2 : Unit) (k4 : Option Text → Unit → Prop) => ((0 : Int) ≤ (((b : Int) - (1 : Int)) - k1) ∧ (((Builtin.bitAnd ((x / 2 ^ ((((b : Int) - (1 : Int)) - k1) : Int).toNat)) (1 : Int)) : Int).natAbs.log2 < 1920 ∧ k4 (some ((strI ((Builtin.bitAnd ((x / 2 ^ ((((b : Int) - (1 : Int)) - k1) : Int).toNat)) (1 : Int)))))) s2))) k (rg 0 b) () [] := by
  refine compW_by (fun xs acc _ => (∀ y ∈ acc, y.length = 1) ∧ acc.length + xs.length = b ∧ ∃ m : Nat, m ≤ b ∧ xs = rg (b - m : Int) m ∧ acc.flatten ++ Fc.cN m x = Fc.cN b x) ?_ _ _ _ ⟨fun y hy => (by cases hy), by rw [Fc.rg_length]; simp, b, Nat.le_refl _, by rw [Int.sub_self], rfl⟩ ?_
  · rintro ys s ⟨q1, q2, m, m1, m2, m3⟩
    have m0 : m = 0 := by
      have := congrArg List.length m2
      rw [Fc.rg_length] at this
      exact this.symm
    subst m0
    simp only [List.length_nil, Nat.add_zero] at q2
    refine h ys (by rw [single_len q1]; simp; omega) ?_
    rw [Fc.joinT_nil]
    exact (List.append_nil _).symm.trans m3
  · rintro k xs acc s ⟨q1, q2, m, m1, m2, m3⟩ kk hk
    cases m with
    | zero => cases m2
    | succ m =>
      rw [Fc.rg_succ] at m2
      injection m2 with m2 m4
      subst m2
      have es : ((b : Int) - 1 - ((b : Int) - ((m + 1 : Nat) : Int))) = (m : Int) := by omega
      rw [es, Int.toNat_natCast, PyProof.Rows.bitAnd_m1]
      have e01 : x / 2 ^ m % 2 = 0 ∨ x / 2 ^ m % 2 = 1 := by omega
      have et : strI (x / 2 ^ m % 2) = [Fc.bt (x / 2 ^ m)] := by
        unfold Fc.bt
        rcases e01 with e | e
        · rw [if_pos e, e]; decide +kernel
        · rw [if_neg (by omega), e]; decide +kernel
      refine ⟨by omega, ?_, ?_⟩
      · rcases e01 with e | e <;> rw [e] <;> decide
      · rw [et]
        refine hk _ _ ⟨fun y hy => ?_, ?_, m, by omega, ?_, ?_⟩
        · rcases List.mem_append.mp hy with q | q
          · exact q1 y q
          · rw [List.mem_singleton.mp q]; rfl
        · rw [List.length_append]; simp only [List.length_cons, List.length_nil] at q2 ⊢; omega
        · rw [m4]; congr 1; omega
        · simp only [List.flatten_append, List.flatten_cons, List.flatten_nil, List.append_nil, List.append_assoc]
          exact m3
theorem all_by {b : Nat} {C : List Text → Unit → Prop} (hb : b ≤ 6) (h : C (allC b) ()) : m__law_all ((b : Int), ()) () C := by
  have hp := p64 hb
  have hpi : ((2 ^ b : Nat) : Int) ≤ 64 := by exact_mod_cast hp
  unfold m__law_all
  dsimp only
  rw [e2b]
  simp only [Int.toNat_natCast]
  refine ⟨cp1 (by omega) (by omega), ⟨Int.le_trans (by decide) (Int.natCast_nonneg _), Int.lt_of_le_of_lt hpi (by decide)⟩, ?_⟩
  refine forB_by (fun xs found (s : Unit) => ∃ done, rg 0 (2 ^ b) = done ++ xs ∧ found = done.map (cN b)) ?_ _ _ _ ⟨[], rfl, rfl⟩ ?_
  · rintro c s ⟨done, e, rfl⟩
    rw [List.append_nil] at e
    rw [← e, allC_rg]; exact h
  · rintro p xs found s ⟨done, e1, e2⟩ kn hk
    have hl : done.length < 64 := by
      have := congrArg List.length e1
      rw [rg_length, List.length_append, List.length_cons] at this
      omega
    refine ⟨⟨by omega, by omega⟩, hz1000 (by rw [rg_length]; omega), ?_⟩
    refine corner_comp (by omega) fun ys y1 y2 => ⟨y1, Nat.lt_of_lt_of_le (show found.length < 64 by rw [e2, List.length_map]; exact hl) (by decide), hk _ _ ⟨done ++ [p], by rw [e1]; simp, ?_⟩⟩
    rw [y2, e2, List.map_append]; rfl

theorem lies_by {f c : Text} {C : Bool → Unit → Prop} (hf : f.length ≤ 64) (hc : c.length = f.length) (h : ∀ r, C r ()) : m__law_lies (f, c, ()) () C := by
  have z1 : f.length ≤ sizeLine := hz1000 (by omega)
  have z2 : c.length ≤ sizeLine := hz1000 (by omega)
  unfold m__law_lies
  dsimp only
  rw [Int.toNat_natCast]
  refine ⟨z1, ⟨by omega, by omega⟩, ?_⟩
  refine forB_by (fun (xs : List Int) _ _ => ∀ x ∈ xs, 0 ≤ x ∧ x < (f.length : Int)) (fun _ _ _ => h true) _ _ _ ?_ ?_
  · intro x hx
    have := rg_mem.mp hx
    omega
  intro x xs _ s q kn hk
  obtain ⟨x0, x1⟩ := q x List.mem_cons_self
  refine jn_by (fun _ _ => True) ?_ ?_
  · intro kj hj
    refine ⟨z1, _, atI_of x0 x1, ?_⟩
    split
    · exact ⟨z1, _, atI_of x0 x1, z2, _, atI_of x0 (by rw [hc]; exact x1), hj _ _ trivial⟩
    · exact hj _ _ trivial
  · intro b' s _
    split
    · exact h false
    · exact hk _ _ fun y hy => q y (List.mem_cons_of_mem _ hy)

theorem law_bits_by {n : Nat} {C : Int → Nat → Prop} (hn : n + 3 < 2 ^ 40) (h : ∀ r : Int, 1 ≤ r → r ≤ 6 → C r (n + 3)) : m__law_bits () n C := by
  refine ⟨by decide, by decide, by omega, fun r2 a0 a1 => ⟨by decide, by decide, by omega, fun r4 b0 b1 => ⟨by decide, by decide, by omega, fun r6 c0 c1 => ?_⟩⟩⟩
  dsimp only at a1 b1 c1
  obtain rfl | rfl | rfl : r6 = 0 ∨ r6 = 1 ∨ r6 = 2 := by omega
  · exact ⟨_, rfl, h _ (by omega) (by omega)⟩
  · exact ⟨_, rfl, h _ (by omega) (by omega)⟩
  · exact ⟨_, rfl, h _ (by omega) (by omega)⟩
theorem flat_one : ∀ {acc : List Text}, (∀ y ∈ acc, ∃ c, y = [c] ∧ (c = 48 ∨ c = 49 ∨ c = 42)) → acc.flatten.length = acc.length ∧ Fc.isF acc.flatten
  | [], _ => ⟨rfl, fun c hc => by cases hc⟩
  | y :: acc, h => by
    obtain ⟨c, rfl, hc⟩ := h y List.mem_cons_self
    obtain ⟨e, g⟩ := flat_one fun z hz => h z (List.mem_cons_of_mem _ hz)
    rw [List.flatten_cons]
    exact ⟨by rw [List.length_append, List.length_cons, List.length_cons, e]; simp; omega, fun d hd => by
      rcases List.mem_append.mp hd with q | q
      · rw [List.mem_singleton.mp q]; exact hc
      · exact g d q⟩
theorem sum_one : ∀ {acc : List Text}, (∀ y ∈ acc, ∃ c, y = [c] ∧ (c = 48 ∨ c = 49 ∨ c = 42)) → (acc.map (·.length)).sum = acc.length
  | [], _ => rfl
  | y :: acc, h => by
    obtain ⟨c, rfl, hc⟩ := h y List.mem_cons_self
    rw [List.map_cons, List.sum_cons, sum_one fun z hz => h z (List.mem_cons_of_mem _ hz)]
    simp; omega
theorem law_face_by {n b : Nat} {C : Text → Nat → Prop} (hb : b ≤ 64) (hn : n + 1 + b < 2 ^ 40) (h : ∀ f : Text, f.length = b → Fc.isF f → C f (n + 1 + b)) : m__law_face ((b : Int), ()) n C := by
  refine ⟨by decide, by decide, by omega, fun r a0 a1 => ?_⟩
  dsimp only at a1
  have key : ∀ signs : Text, 0 < signs.length → signs.length < 100 → Fc.isF signs → ((-(2 ^ 62) ≤ (b : Int) ∧ (b : Int) < 2 ^ 62) ∧ ((rg 0 (b : Int).toNat).length ≤ sizeLine ∧ compW (fun k5 s6 k8 => (signs.length ≤ sizeLine ∧ nextD ((signs.length : Int), ()) s6 (fun r10 s11 => (signs.length ≤ sizeLine ∧ ∃ c9, atI signs r10 = some c9 ∧ k8 (some ([c9])) s11)))) (fun ys12 s7 => ((ys12.map (·.length)).sum + ys12.length * ([] : Text).length ≤ 16777216 ∧ C ((joinT ([] : Text) ys12)) s7)) ((rg 0 (b : Int).toNat)) (n + 1) [])) := by
    intro signs p0 p1 hs
    have z : signs.length ≤ sizeLine := Nat.le_trans (Nat.le_of_lt p1) (by decide)
    refine ⟨⟨by omega, by omega⟩, by rw [Fc.rg_length]; exact Nat.le_trans (by omega) (show 64 ≤ sizeLine by decide), ?_⟩
    refine compW_by (fun xs acc s => (∀ y ∈ acc, ∃ c, y = [c] ∧ (c = 48 ∨ c = 49 ∨ c = 42)) ∧ acc.length + xs.length = b ∧ s = n + 1 + acc.length) ?_ _ _ _ ⟨fun y hy => (by cases hy), by rw [Fc.rg_length]; simp, rfl⟩ ?_
    · rintro ys s ⟨q1, q2, rfl⟩
      simp only [List.length_nil, Nat.add_zero] at q2
      refine ⟨by rw [sum_one q1]; simp; omega, ?_⟩
      rw [Fc.joinT_nil, q2]
      exact h _ ((flat_one q1).1.trans q2) (flat_one q1).2
    · rintro x xs' acc s ⟨q1, q2, rfl⟩ kk hk
      rw [List.length_cons] at q2
      refine ⟨z, by dsimp only; omega, by dsimp only; omega, by omega, fun r10 d0 d1 => ⟨z, _, atI_of d0 d1, hk _ _ ⟨fun y hy => ?_, ?_, ?_⟩⟩⟩
      · rcases List.mem_append.mp hy with q | q
        · exact q1 y q
        · exact ⟨_, List.mem_singleton.mp q, hs _ (List.getElem_mem _)⟩
      · simp; omega
      · simp; omega
  obtain rfl | rfl | rfl | rfl | rfl : r = 0 ∨ r = 1 ∨ r = 2 ∨ r = 3 ∨ r = 4 := by omega
  all_goals exact ⟨_, rfl, key _ (by decide) (by decide) (by unfold Fc.isF; decide)⟩
theorem deck_ok {ns : List Int} (hl : ns.length ≤ 63) {C : List (List Int ⊕ Int) → Unit → Prop} (h : ∀ y, deckI 0 y → C y ()) : m__law_deck (ns, ()) () C := by
  refine h _ ⟨_, _, _, _, _, rfl, ?_, by decide, by decide, by decide, by decide⟩
  refine Nat.le_trans ?_ hl
  show (List.take _ (List.drop _ _)).length ≤ _
  rw [List.length_take, List.length_drop]
  exact Nat.le_trans (Nat.min_le_right _ _) (Nat.sub_le _ _)

theorem set_by {b n : Nat} {C : Int × List Text → Nat → Prop} (hb : b ≤ 6) (hn : n + 1000 < 2 ^ 40) (h : ∀ z n', z.Sublist (allC b) → n' ≤ n + 200 → C ((b : Int), z) n') : m__law_set ((b : Int), ()) n C := by
  have hp := p64 hb
  have hp0 : 0 < 2 ^ b := Nat.pow_pos (by decide)
  have hal : (allC b).length ≤ 64 := by rw [allC_length]; exact hp
  have hal0 : 0 < (allC b).length := by rw [allC_length]; exact hp0
  refine all_by hb ⟨by decide, by decide, by omega, fun way w0 w1 => ⟨⟨by decide, by decide, by decide⟩, ⟨by decide, by decide, by decide⟩, ?_⟩⟩
  dsimp only at w1
  obtain ⟨y, hy, y0, y1⟩ : ∃ y, atI ([(1 : Int), ((10 : Int) ^ ((6 : Int) : Int).toNat), ((10 : Int) ^ ((6 : Int) : Int).toNat), (2 : Int), (8 : Int), (2 : Int), (3 : Int), (4 : Int)]) way = some y ∧ 0 < y ∧ y < 2 ^ 30 := by
    obtain rfl | rfl | rfl | rfl | rfl | rfl | rfl | rfl : way = 0 ∨ way = 1 ∨ way = 2 ∨ way = 3 ∨ way = 4 ∨ way = 5 ∨ way = 6 ∨ way = 7 := by omega
    all_goals exact ⟨_, rfl, by decide, by decide⟩
  refine ⟨y, hy, hz1000 (by omega), ?_⟩
  refine compW_by (fun xs acc (s : Nat) => ∃ done, allC b = done ++ xs ∧ acc.Sublist done ∧ s = n + 1 + done.length) ?_ _ _ _ ⟨[], rfl, .slnil, rfl⟩ ?_
  · rintro ys s ⟨done, e1, e2, rfl⟩
    rw [List.append_nil] at e1
    subst e1
    refine jn_by (fun z s => z.Sublist (allC b) ∧ s ≤ n + 70) ?_ ?_
    · intro kj hj
      split
      · refine ⟨by dsimp only; omega, by dsimp only; omega, by omega, fun r r0 r1 => ?_⟩
        dsimp only at r1
        exact ⟨_, atI_of r0 r1, hj _ _ ⟨List.singleton_sublist.mpr (List.getElem_mem _), by omega⟩⟩
      · exact hj _ _ ⟨e2, by omega⟩
    rintro z s ⟨z1, z2⟩
    refine jn_by (fun z s => z.Sublist (allC b) ∧ s ≤ n + 70) ?_ ?_
    · intro kj hj
      split
      · refine ⟨hz1000 (by omega), compW_fm (fun c => if (!memB c z) = true then some c else none) _ _ _ (fun c _ s kk q => ?_) (hj _ _ ⟨?_, z2⟩)⟩
        · split
          · rename_i g; rw [if_pos g] at q; exact q
          · rename_i g; rw [if_neg g] at q; exact q
        · have e : ∀ l : List Text, l.filterMap (fun c => if (!memB c z) = true then some c else none) = l.filter fun c => !memB c z := fun l => by rw [← List.filterMap_eq_filter]; rfl
          rw [List.nil_append, e]
          exact List.filter_sublist
      · exact hj _ _ ⟨z1, z2⟩
    rintro z s ⟨z1, z2⟩
    refine jn_by (fun z s => z.Sublist (allC b) ∧ s ≤ n + 200) ?_ ?_
    · intro kj hj
      split
      · refine ⟨by decide, by decide, by omega, fun r r0 r1 => ?_⟩
        dsimp only at r1
        refine ⟨⟨by omega, by omega⟩, hz1000 (by rw [rg_length]; omega), ?_⟩
        refine compW_by (fun xs acc (t : Nat) => (∀ f ∈ acc, f.length = b) ∧ acc.length + xs.length ≤ 4 ∧ t ≤ s + 1 + 7 * acc.length) ?_ _ _ _ ⟨fun f hf => (by cases hf), by rw [rg_length]; simp; omega, Nat.le_refl _⟩ ?_
        · rintro fs t ⟨f1, f2, f3⟩
          simp only [List.length_nil, Nat.add_zero] at f2
          refine ⟨hz1000 (by omega), ?_⟩
          refine compW_by (fun xs acc (u : Nat) => ∃ done, allC b = done ++ xs ∧ acc.Sublist done ∧ u = t) ?_ _ _ _ ⟨[], rfl, .slnil, rfl⟩ ?_
          · rintro zs u ⟨done, g1, g2, rfl⟩
            rw [List.append_nil] at g1
            subst g1
            exact hj _ _ ⟨g2, by omega⟩
          · rintro c xs acc u ⟨done, g1, g2, rfl⟩ kk hk
            have hc : c.length = b := allC_len (by rw [g1]; simp)
            refine ⟨hz1000 (by omega), ?_⟩
            refine compW_by (fun xs _ (v : Nat) => (∀ f ∈ xs, f.length = b) ∧ v = u) ?_ _ _ _ ⟨f1, rfl⟩ ?_
            · rintro ys v ⟨_, rfl⟩
              split
              · exact hk _ _ ⟨done ++ [c], by rw [g1]; simp, g2.append (List.Sublist.refl _), rfl⟩
              · exact hk _ _ ⟨done ++ [c], by rw [g1]; simp, g2.trans (List.sublist_append_left _ _), rfl⟩
            · rintro f xs' acc' v ⟨v1, rfl⟩ kk2 hk2
              have hf := v1 f List.mem_cons_self
              refine lies_by (by omega) (by omega) fun r => ?_
              split
              · exact hk2 _ _ ⟨fun f hf => v1 f (List.mem_cons_of_mem _ hf), rfl⟩
              · exact hk2 _ _ ⟨fun f hf => v1 f (List.mem_cons_of_mem _ hf), rfl⟩
        · rintro x xs acc t ⟨f1, f2, f3⟩ kk hk
          rw [List.length_cons] at f2
          refine law_face_by (by omega) (by omega) fun f hf _ => hk _ _ ⟨fun y hy => ?_, ?_, ?_⟩
          · rcases List.mem_append.mp hy with q | q
            · exact f1 y q
            · rw [List.mem_singleton.mp q]; exact hf
          · rw [List.length_append, List.length_singleton]; omega
          · rw [List.length_append, List.length_singleton]; omega
      · exact hj _ _ ⟨z1, by omega⟩
    rintro z s ⟨z1, z2⟩
    exact h z s z1 z2
  · rintro c xs acc s ⟨done, e1, e2, rfl⟩ kk hk
    have hl : done.length < 64 := by
      have := congrArg List.length e1
      rw [List.length_append, List.length_cons] at this
      omega
    refine ⟨y0, y1, by omega, fun r r0 r1 => ?_⟩
    dsimp only
    split
    · exact hk _ _ ⟨done ++ [c], by rw [e1]; simp, e2.append (List.Sublist.refl _), by rw [List.length_append, List.length_singleton]; omega⟩
    · exact hk _ _ ⟨done ++ [c], by rw [e1]; simp, e2.trans (List.sublist_append_left _ _), by rw [List.length_append, List.length_singleton]; omega⟩

theorem fm_two {s : Nat} (c : Text) : ((sgs [48, 49]).filterMap fun bit => if memB [s] [bit, [42]] = true then some (c ++ bit) else none) = (if s = 48 ∨ s = 42 then [c ++ [48]] else []) ++ (if s = 49 ∨ s = 42 then [c ++ [49]] else []) := by
  by_cases h1 : s = 48
  · subst h1; simp [sgs]
  by_cases h2 : s = 49
  · subst h2; simp [sgs]
  by_cases h3 : s = 42
  · subst h3; simp [sgs]
  · simp [sgs, h1, h2, h3]
theorem corners_by {f : Text} {C : List Text → Unit → Prop} (hf : f.length ≤ 6) (h : C (Fc.crn f) ()) : m_corners_of (f, ()) () C := by
  have hz : ∀ z, z ≤ 1000 → z ≤ sizeLine := fun z q => Nat.le_trans q (by decide)
  refine forB_by (fun xs found (s : Unit) => ∃ g : Text, xs = sgs g ∧ g.length ≤ 6 ∧ found.length * 2 ^ g.length ≤ 64 ∧ (∀ y ∈ found, y.length + g.length ≤ 6) ∧ g.foldl Fc.stepC found = Fc.crn f) ?_ _ _ _ ⟨f, rfl, hf, ?_, ?_, Fc.foldl_crn f⟩ ?_
  · rintro c s ⟨g, e, _, _, _, q⟩
    have : g = [] := List.map_eq_nil_iff.mp e.symm
    subst this
    rw [show c = Fc.crn f from q]; exact h
  · show 1 * 2 ^ f.length ≤ 64
    have : f.length = 0 ∨ f.length = 1 ∨ f.length = 2 ∨ f.length = 3 ∨ f.length = 4 ∨ f.length = 5 ∨ f.length = 6 := by omega
    rcases this with e | e | e | e | e | e | e <;> rw [e] <;> decide
  · intro y hy; rw [List.mem_singleton.mp hy]; show 0 + f.length ≤ 6; omega
  · rintro x xs' found s ⟨g, e, q1, q2, q3, q4⟩ kn hk
    cases g with
    | nil => cases e
    | cons sg g =>
      cases e
      rw [List.length_cons] at q1 q2 q3
      have q0 : 0 < 2 ^ g.length := Nat.pow_pos (by decide)
      have q5 : found.length * 2 * 2 ^ g.length ≤ 64 := by rw [Nat.mul_assoc, Nat.mul_comm 2, ← Nat.pow_succ]; exact q2
      have q6 : found.length * 2 ≤ 64 := Nat.le_trans (Nat.le_mul_of_pos_right _ q0) q5
      have one : ∀ c : Text, ((if sg = 48 ∨ sg = 42 then [c ++ [48]] else []) ++ (if sg = 49 ∨ sg = 42 then [c ++ [49]] else [])).length ≤ 2 := fun c => by
        rw [List.length_append]
        split <;> split <;> simp
      refine forB_by (fun ys (longer : List Text) (s : Unit) => ∃ done, found = done ++ ys ∧ longer = Fc.stepC done sg ∧ longer.length ≤ 2 * done.length) ?_ _ _ _ ⟨[], rfl, rfl, Nat.le_refl _⟩ ?_
      · rintro longer s ⟨done, e1, rfl, e3⟩
        rw [List.append_nil] at e1
        subst e1
        refine hk _ _ ⟨g, rfl, by omega, ?_, fun y hy => ?_, q4⟩
        · refine Nat.le_trans (Nat.mul_le_mul_right _ e3) ?_
          rw [Nat.mul_comm 2]; exact q5
        · obtain ⟨c, hc, hy⟩ := List.mem_flatMap.mp hy
          have l := q3 c hc
          rcases List.mem_append.mp hy with z | z
          · split at z
            · rw [List.mem_singleton.mp z, List.length_append]; simp; omega
            · cases z
          · split at z
            · rw [List.mem_singleton.mp z, List.length_append]; simp; omega
            · cases z
      · rintro c ys longer s ⟨done, e1, e2, e3⟩ kn2 hk2
        have lc : c.length + (g.length + 1) ≤ 6 := q3 c (by rw [e1]; simp)
        have ld : done.length < found.length := by rw [e1]; simp
        refine ⟨hz _ (by decide), compW_fm (fun bit => if memB [sg] [bit, [42]] = true then some (c ++ bit) else none) _ _ _ ?_ ?_⟩
        · intro bit hb s kk q
          dsimp only
          by_cases hm : memB [sg] [bit, [42]] = true
          · rw [if_pos hm] at q ⊢
            refine ⟨hz _ ?_, q⟩
            obtain ⟨b, _, rfl⟩ := List.mem_map.mp hb
            simp; omega
          · rw [if_neg hm] at q ⊢
            exact q
        · rw [List.nil_append, fm_two]
          have l1 := one c
          refine ⟨hz _ (by omega), hk2 _ _ ⟨done ++ [c], by rw [e1]; simp, ?_, ?_⟩⟩
          · rw [e2]
            unfold Fc.stepC
            rw [List.flatMap_append]; simp
          · refine Nat.le_trans (Nat.le_of_eq List.length_append) ?_
            rw [show (done ++ [c]).length = done.length + 1 by simp]; omega

theorem sgs_length (f : Text) : (sgs f).length = f.length := List.length_map ..
theorem sgs_mem {f t : Text} (h : t ∈ sgs f) : ∃ c, c ∈ f ∧ t = [c] := by
  obtain ⟨c, hc, e⟩ := List.mem_map.mp h
  exact ⟨c, hc, e.symm⟩
theorem strI3 {c : Nat} (h : c = 48 ∨ c = 49 ∨ c = 42) : strI (findT [48, 49, 42] [c]) = [dg c] ∧ (findT [48, 49, 42] [c]).natAbs.log2 < 1920 := by
  rcases h with rfl | rfl | rfl <;> decide +kernel
theorem atI_mem' {α : Type} {xs : List α} {i : Int} (h0 : 0 ≤ i) (h1 : i < xs.length) : ∃ y, atI xs i = some y ∧ y ∈ xs := ⟨_, Sm.atI_of h0 h1, List.getElem_mem _⟩
theorem enI_length {α : Type} (xs : List α) : (enI xs).length = xs.length := by unfold enI; rw [List.length_map, List.length_zipIdx]
def okD (c : Nat) : Bool := c == 48 || c == 49
def bad (t : Text) : Option Nat := t.findIdx? fun c => !okD c
def bitsT (n : Nat) : Option Nat := if n = 2 then some 1 else if n = 4 then some 2 else if n = 8 then some 3 else if n = 16 then some 4 else if n = 32 then some 5 else if n = 64 then some 6 else none
def setT (b : Nat) (t : Text) : List Text := ((allC b).zip (sgs t)).filterMap fun p => if (eqB p.2 [49]) = true then some p.1 else none
def dueT (t : Text) : (Text × Int) ⊕ (Int × List Text) :=
  match bad t with
  | some i => .inl ([115, 101, 116], (i : Int))
  | none => match bitsT t.length with
    | none => .inl ([115, 101, 116], (t.length : Int))
    | some b => .inr ((b : Int), setT b t)
theorem bad_some {t : Text} {i c : Nat} (h : t[i]? = some c) (hc : okD c = false) (hb : ∀ j, j < i → ∀ d, t[j]? = some d → okD d = true) : bad t = some i := by
  obtain ⟨hi, e⟩ := List.getElem?_eq_some_iff.mp h
  unfold bad
  rw [List.findIdx?_eq_some_iff_getElem]
  refine ⟨hi, by rw [e, hc]; rfl, fun j hj => ?_⟩
  have := hb j hj t[j] (List.getElem?_eq_getElem (by omega))
  rw [this]; decide
theorem bad_none {t : Text} (h : ∀ c ∈ t, okD c = true) : bad t = none := by
  unfold bad
  rw [List.findIdx?_eq_none_iff]
  intro c hc
  rw [h c hc]; rfl
theorem bitsT_some {n b : Nat} (h : bitsT n = some b) : n = 2 ^ b ∧ 1 ≤ b ∧ b ≤ 6 := by
  unfold bitsT at h
  split at h
  · cases h; subst_vars; decide
  split at h
  · cases h; subst_vars; decide
  split at h
  · cases h; subst_vars; decide
  split at h
  · cases h; subst_vars; decide
  split at h
  · cases h; subst_vars; decide
  split at h
  · cases h; subst_vars; decide
  · cases h
theorem bitsT_none {n : Nat} (h : bitsT n = none) : n ≠ 2 ∧ n ≠ 4 ∧ n ≠ 8 ∧ n ≠ 16 ∧ n ≠ 32 ∧ n ≠ 64 := by
  unfold bitsT at h
  refine ⟨?_, ?_, ?_, ?_, ?_, ?_⟩ <;> (intro e; subst e; cases h)
theorem rg_nat (n : Nat) : rg 0 n = (List.range n).map fun (i : Nat) => (i : Int) := by
  unfold rg
  exact List.map_congr_left fun i _ => by omega
theorem rg_at {n : Nat} {done xs : List Int} {x : Int} (e : rg 0 n = done ++ x :: xs) : x = (done.length : Int) ∧ done.length < n := by
  have l : done.length < n := by
    have := congrArg List.length e
    rw [Fc.rg_length] at this
    simp at this; omega
  have g : (rg 0 n)[done.length]? = some x := by rw [e]; simp
  rw [rg_nat, List.getElem?_map, List.getElem?_range l] at g
  exact ⟨(Option.some.inj g).symm, l⟩
theorem big_ok {n : Nat} (h : n ≤ 1000000) : n ≤ sizeLine := Nat.le_trans h (by decide)
theorem dget_bits (n : Nat) : (dget (dmerge [((2 : Int), (1 : Int)), ((4 : Int), (2 : Int)), ((8 : Int), (3 : Int)), ((16 : Int), (4 : Int)), ((32 : Int), (5 : Int)), ((64 : Int), (6 : Int))]) (n : Int)).getD (0 : Int) = ((bitsT n).map fun (b : Nat) => (b : Int)).getD 0 := by
  have e : dmerge [((2 : Int), (1 : Int)), ((4 : Int), (2 : Int)), ((8 : Int), (3 : Int)), ((16 : Int), (4 : Int)), ((32 : Int), (5 : Int)), ((64 : Int), (6 : Int))] = [((2 : Int), (1 : Int)), ((4 : Int), (2 : Int)), ((8 : Int), (3 : Int)), ((16 : Int), (4 : Int)), ((32 : Int), (5 : Int)), ((64 : Int), (6 : Int))] := by rfl
  rw [e]
  unfold bitsT dget
  by_cases h2 : n = 2
  · subst h2; rfl
  by_cases h4 : n = 4
  · subst h4; rfl
  by_cases h8 : n = 8
  · subst h8; rfl
  by_cases h16 : n = 16
  · subst h16; rfl
  by_cases h32 : n = 32
  · subst h32; rfl
  by_cases h64 : n = 64
  · subst h64; rfl
  rw [if_neg h2, if_neg h4, if_neg h8, if_neg h16, if_neg h32, if_neg h64]
  have n2 : ¬ (2 : Int) = (n : Int) := by omega
  have n4 : ¬ (4 : Int) = (n : Int) := by omega
  have n8 : ¬ (8 : Int) = (n : Int) := by omega
  have n16 : ¬ (16 : Int) = (n : Int) := by omega
  have n32 : ¬ (32 : Int) = (n : Int) := by omega
  have n64 : ¬ (64 : Int) = (n : Int) := by omega
  simp [List.find?, n2, n4, n8, n16, n32, n64]
theorem law_due_by {t : Text} {C : (Text × Int) ⊕ (Int × List Text) → Unit → Prop} (hl : t.length ≤ 1000000) (h : C (dueT t) ()) : m__law_due (t, ()) () C := by
  have hz := big_ok hl
  unfold m__law_due
  dsimp only
  refine ⟨hz, ⟨by omega, by omega⟩, ?_⟩
  rw [Int.toNat_natCast]
  refine forB_by (fun xs _ _ => ∃ done, rg 0 t.length = done ++ xs ∧ ∀ j, j < done.length → ∀ d, t[j]? = some d → okD d = true) ?_ _ _ _ ⟨[], rfl, fun j hj => absurd hj (Nat.not_lt_zero _)⟩ ?_
  · rintro c s ⟨done, e, ok⟩
    rw [List.append_nil] at e
    have dl : done.length = t.length := by rw [← e, Fc.rg_length]
    have bn : bad t = none := bad_none fun c hc => by
      obtain ⟨j, hj⟩ := List.getElem?_of_mem hc
      exact ok j (by rw [dl]; exact (List.getElem?_eq_some_iff.mp hj).1) c hj
    refine ⟨by decide, hz, ?_⟩
    rw [dget_bits]
    cases bt : bitsT t.length with
    | none =>
      rw [if_pos (by decide)]
      have : dueT t = .inl ([115, 101, 116], (t.length : Int)) := by unfold dueT; rw [bn, bt]
      rw [this] at h
      exact ⟨hz, h⟩
    | some b =>
      obtain ⟨e2, b1, b6⟩ := bitsT_some bt
      show (if eqB (b : Int) (0 : Int) = true then _ else _)
      rw [if_neg (by rw [eqB_iff]; omega)]
      have : dueT t = .inr ((b : Int), setT b t) := by unfold dueT; rw [bn, bt]
      rw [this] at h
      refine all_by b6 ⟨Nat.le_trans (m := 100) (by have := p64 b6; rw [List.length_zip, allC_length]; omega) (by decide), compW_fm (fun p => if (eqB p.2 [49]) = true then some p.1 else none) _ _ _ (fun p _ s kk q => ?_) ?_⟩
      · split
        · rename_i g; rw [if_pos g] at q; exact q
        · rename_i g; rw [if_neg g] at q; exact q
      · rw [List.nil_append]; exact h
  · rintro x xs c s ⟨done, e, ok⟩ kn hk
    obtain ⟨rfl, dl⟩ := rg_at e
    have e1 : atI t ((done.length : Nat) : Int) = some t[done.length] := Sm.atI_nat dl
    refine jn_by (fun r _ => r = !okD t[done.length]) (fun kj hj => ⟨hz, _, e1, ?_⟩) ?_
    · by_cases g : t[done.length] = 48
      · rw [if_neg (by rw [g]; decide)]
        exact hj _ _ (by rw [g]; decide)
      · rw [if_pos (by rw [Bool.not_eq_true', ← Bool.not_eq_true, eqB_iff]; simpa using g)]
        refine ⟨hz, _, e1, hj _ _ ?_⟩
        unfold okD eqB
        by_cases g2 : t[done.length] = 49
        · rw [g2]; decide
        · simp [g, g2]
    · rintro z s2 rfl
      cases g : okD t[done.length] with
      | true =>
        rw [if_neg (by decide)]
        refine hk _ _ ⟨done ++ [((done.length : Nat) : Int)], by rw [e]; simp, fun j hj d hd => ?_⟩
        rw [List.length_append, List.length_singleton] at hj
        by_cases q : j < done.length
        · exact ok j q d hd
        · have : j = done.length := by omega
          subst this
          rw [List.getElem?_eq_getElem dl] at hd
          rw [← Option.some.inj hd]; exact g
      | false =>
        rw [if_pos (by decide)]
        have : dueT t = .inl ([115, 101, 116], ((done.length : Nat) : Int)) := by
          unfold dueT
          rw [bad_some (List.getElem?_eq_getElem dl) g ok]
        rw [this] at h
        exact h
theorem strI_tl (n : Int) : strI n = TL.tl (PySem.Str.ofString (toString n)) := by rw [TL.tl_ofString]; rfl
theorem strI_cps (n : Nat) : strI (n : Int) = (Nat.toDigits 10 n).map Char.toNat := by
  rw [strI_tl]
  exact W.KIN.signs_num n
theorem strI_size {n k : Nat} (hk : 0 < k) (h : n < 10 ^ k) : (strI (n : Int)).length ≤ k := by
  have := PyProof.Rows.toString_length_le (v := (n : Int)) (by omega) hk (by exact_mod_cast h)
  rw [strI_tl]
  exact this
theorem noset_by {n : Nat} {C : Unit → XIn Int → Prop} (hn : n < 10 ^ 100) (h : C () (.full (n : Int))) : m_NoSet___init__ ((n : Int), ()) .raw C := by
  have hs := strI_size (n := n) (k := 100) (by decide) hn
  unfold m_NoSet___init__
  refine ⟨?_, ?_, rfl, rfl, h⟩
  · dsimp only
    rw [Int.natAbs_natCast]
    by_cases q : n = 0
    · rw [q]; decide
    · exact Nat.lt_of_lt_of_le ((Nat.log2_lt q).mpr (Nat.lt_trans hn (by decide : 10 ^ 100 < 2 ^ 400))) (by decide)
  · dsimp only
    exact Nat.le_trans (m := 1000) (by simp only [List.length_cons, List.length_nil]; omega) (by decide)
theorem read_due {t : Text} {Cn : Int × List Text → Unit → Prop} {Cx : Exn → Unit → Prop} (hl : t.length ≤ 1000000) (h1 : ∀ n, dueT t = .inl ([115, 101, 116], n) → Cx (.set n) ()) (h2 : ∀ p, dueT t = .inr p → Cn p ()) : m_read_set (t, ()) () Cn Cx := by
  have hz := big_ok hl
  unfold m_read_set
  dsimp only
  refine forB_by (fun xs _ _ => ∃ done, enI (sgs t) = done ++ xs ∧ ∀ j, j < done.length → ∀ d, t[j]? = some d → okD d = true) ?_ _ _ _ ⟨[], rfl, fun j hj => absurd hj (Nat.not_lt_zero _)⟩ ?_
  · rintro c s ⟨done, e, ok⟩
    rw [List.append_nil] at e
    have dl : done.length = t.length := by rw [← e, enI_length, sgs_length]
    have bn : bad t = none := bad_none fun c hc => by
      obtain ⟨j, hj⟩ := List.getElem?_of_mem hc
      exact ok j (by rw [dl]; exact (List.getElem?_eq_some_iff.mp hj).1) c hj
    refine ⟨⟨by decide, by decide, by decide, by decide⟩, by decide, compW_fm (fun n => some ((1 : Int) * 2 ^ (n : Int).toNat)) _ _ _ (fun n hn s kk q => ⟨cp1 ?_ ?_, q⟩) ?_⟩
    · have := rg_mem.mp hn; omega
    · have := (rg_mem.mp hn).2
      have e : (((6 + 1 : Int) - 1).toNat : Int) = 6 := by decide
      omega
    · have es : [] ++ (rg (1 : Int) (((6 : Int) + 1) - 1).toNat).filterMap (fun n => some ((1 : Int) * 2 ^ (n : Int).toNat)) = [2, 4, 8, 16, 32, 64] := by decide +kernel
      rw [es]
      refine ⟨hz, ?_⟩
      cases bt : bitsT t.length with
      | none =>
        obtain ⟨n1, n2, n3, n4, n5, n6⟩ := bitsT_none bt
        have hm : memB ((t.length : Nat) : Int) [(2 : Int), 4, 8, 16, 32, 64] = false := by
          rw [← Bool.not_eq_true, memB_iff]
          intro w
          simp only [List.mem_cons, List.not_mem_nil, or_false] at w
          omega
        rw [hm, if_pos (by decide)]
        exact ⟨hz, noset_by (Nat.lt_of_le_of_lt hl (by decide)) ⟨_, rfl, h1 _ (by unfold dueT; rw [bn, bt])⟩⟩
      | some b =>
        obtain ⟨e2, b1, b6⟩ := bitsT_some bt
        have hp := p64 b6
        have hm : memB ((t.length : Nat) : Int) [(2 : Int), 4, 8, 16, 32, 64] = true := by
          rw [e2]
          have : b = 1 ∨ b = 2 ∨ b = 3 ∨ b = 4 ∨ b = 5 ∨ b = 6 := by omega
          rcases this with rfl | rfl | rfl | rfl | rfl | rfl <;> decide
        rw [hm, if_neg (by decide)]
        refine ⟨hz, b - 1, ?_, ?_, ?_⟩
        · rw [e2]
          have : b = 1 ∨ b = 2 ∨ b = 3 ∨ b = 4 ∨ b = 5 ∨ b = 6 := by omega
          rcases this with rfl | rfl | rfl | rfl | rfl | rfl <;> rfl
        · rw [e2]
          have : b = 1 ∨ b = 2 ∨ b = 3 ∨ b = 4 ∨ b = 5 ∨ b = 6 := by omega
          rcases this with rfl | rfl | rfl | rfl | rfl | rfl <;> decide
        · have eb : ((b - 1 : Nat) : Int) + 1 = (b : Int) := by omega
          rw [eb]
          refine ⟨⟨by decide, by omega, by omega⟩, ?_⟩
          rw [star_text]
          refine corners_by (by rw [List.length_replicate]; exact b6) ?_
          rw [crn_star]
          refine ⟨hz1000 (by rw [List.length_zip, allC_length]; omega), compW_fm (fun p => if (eqB p.2 [49]) = true then some p.1 else none) _ _ _ (fun p _ s kk q => ?_) ?_⟩
          · split
            · rename_i g; rw [if_pos g] at q; exact q
            · rename_i g; rw [if_neg g] at q; exact q
          · rw [List.nil_append]
            exact h2 _ (by unfold dueT; rw [bn, bt]; rfl)
  · rintro p xs c s ⟨done, e, ok⟩ kn hk
    have g : (enI (sgs t))[done.length]? = some p := by rw [e]; simp
    obtain ⟨p1, p2⟩ := enI_get g
    have dl : done.length < t.length := by
      have := congrArg List.length e
      rw [enI_length, sgs_length] at this
      simp at this; omega
    have p2' : p.2 = [t[done.length]] := by
      unfold sgs at p2
      rw [List.getElem?_map, List.getElem?_eq_getElem dl] at p2
      exact (Option.some.inj p2).symm
    rw [p2', inT_one, p1]
    have em : decide (t[done.length] ∈ [48, 49]) = okD t[done.length] := by
      rw [Bool.eq_iff_iff, decide_eq_true_iff]
      unfold okD
      simp
    rw [em]
    cases g2 : okD t[done.length] with
    | true =>
      rw [if_neg (by decide)]
      refine hk _ _ ⟨done ++ [p], by rw [e]; simp, fun j hj d hd => ?_⟩
      rw [List.length_append, List.length_singleton] at hj
      by_cases q : j < done.length
      · exact ok j q d hd
      · have : j = done.length := by omega
        subst this
        rw [List.getElem?_eq_getElem dl] at hd
        rw [← Option.some.inj hd]; exact g2
    | false =>
      rw [if_pos (by decide)]
      exact noset_by (Nat.lt_trans dl (Nat.lt_of_le_of_lt hl (by decide))) ⟨_, rfl, h1 _ (by unfold dueT; rw [bad_some (List.getElem?_eq_getElem dl) g2 ok])⟩
theorem kind_set {n : Int} {C : (List Text) ⊕ (Text × Int) → Unit → Prop} (h : C (.inr ([115, 101, 116], n)) ()) : m__law_kind (Exn.set n, ()) () C := by
  unfold m__law_kind
  dsimp only [isAsk, isCorner, isParting, isSet, isAny]
  refine ⟨by decide, ?_⟩
  rw [if_neg (by decide)]
  refine ⟨false, rfl, ?_⟩
  rw [if_neg (by decide)]
  refine ⟨true, rfl, ?_⟩
  rw [if_pos rfl]
  refine ⟨n, rfl, ?_⟩
  first
  | exact ⟨n, rfl, h⟩
  | (rw [if_neg (by decide)]; exact ⟨n, rfl, h⟩)
theorem kind_corner {c : Text} {C : (List Text) ⊕ (Text × Int) → Unit → Prop} (h : C (.inl [[99, 111, 114, 110, 101, 114], c]) ()) : m__law_kind (Exn.corner c, ()) () C := by
  unfold m__law_kind
  dsimp only [isAsk, isCorner, isParting, isSet, isAny]
  refine ⟨by decide, ?_⟩
  rw [if_neg (by decide)]
  refine ⟨true, rfl, ?_⟩
  rw [if_pos rfl]
  exact ⟨c, rfl, h⟩
theorem law_right_by {t : Text} {C : Bool → Unit → Prop} (hl : t.length ≤ 1000000) (h : C true ()) : m__law_right (t, ()) () C := by
  unfold m__law_right
  dsimp only
  refine law_due_by hl ⟨⟨by decide, by decide⟩, ?_⟩
  refine forB_by (fun _ _ _ => True) (fun _ _ _ => h) _ _ _ trivial ?_
  rintro x xs c s _ kn hk
  refine jn_by (fun z _ => match dueT t with | .inl q => z.2 = some (Exn.set q.2) | .inr p => z.1 = some p) (fun kj hj => ?_) ?_
  · refine read_due hl (fun n e => hj _ _ ?_) (fun p e => hj _ _ ?_)
    · rw [e]
    · rw [e]
  · rintro z s2 hz
    refine jn_by (fun _ _ => True) (fun kj hj => ?_) (fun _ _ _ => hk _ _ trivial)
    cases e : dueT t with
    | inl q =>
      obtain ⟨q1, q2⟩ := q
      have e1 : q1 = [115, 101, 116] := by
        unfold dueT at e
        split at e
        · exact (Prod.mk.inj (Sum.inl.inj e)).1.symm
        · split at e
          · exact (Prod.mk.inj (Sum.inl.inj e)).1.symm
          · cases e
      subst e1
      rw [e] at hz
      have hz : z.2 = some (Exn.set q2) := hz
      rw [if_pos (by rfl)]
      refine jn_by (fun b _ => b = false) (fun k2 h2 => ?_) ?_
      · rw [hz, if_neg (by simp)]
        refine ⟨_, rfl, ?_⟩
        refine kind_set ⟨_, rfl, h2 _ _ ?_⟩
        simp [eqB]
      · rintro b s3 rfl
        rw [if_neg (by decide)]
        exact hj _ _ trivial
    | inr p =>
      rw [e] at hz
      have hz : z.1 = some p := hz
      rw [if_neg (by simp [fstS, eqB])]
      refine jn_by (fun b _ => b = false) (fun k2 h2 => ?_) ?_
      · rw [hz, if_neg (by simp)]
        exact ⟨_, rfl, h2 _ _ (by simp [eqB])⟩
      · rintro b s3 rfl
        rw [if_neg (by decide)]
        exact hj _ _ trivial

theorem law_sign_by {n : Nat} {C : Text → Nat → Prop} (hn : n + 3 < 2 ^ 40) (h : ∀ t : Text, t.length = 1 → C t (n + 3)) : m__law_sign () n C := by
  unfold m__law_sign
  refine ⟨by decide, by decide, by decide, by omega, fun r a0 a1 => ⟨by decide, ?_⟩⟩
  obtain ⟨c, hc⟩ : ∃ c, atI [32, 33, 34, 35, 36, 38, 39, 40, 41, 42, 43, 44, 45, 46, 47, 48, 49, 50, 51, 52, 53, 54, 55, 56, 57, 58, 59, 60, 61, 62, 63, 64, 65, 66, 67, 68, 69, 70, 71, 72, 73, 74, 75, 76, 77, 78, 79, 80, 81, 82, 83, 84, 85, 86, 87, 88, 89, 90, 91, 92, 93, 94, 95, 96, 97, 98, 99, 100, 101, 102, 103, 104, 105, 106, 107, 108, 109, 110, 111, 112, 113, 114, 115, 116, 117, 118, 119, 120, 121, 122, 123, 124, 125, 126, 10] r = some c := ⟨_, Sm.atI_of a0 (by simpa using a1)⟩
  refine ⟨c, hc, by decide, by decide, by omega, fun r2 b0 b1 => ⟨by decide, ?_⟩⟩
  obtain ⟨d, hd⟩ : ∃ d, atI ([48, 49, 42] : Text) r2 = some d := ⟨_, Sm.atI_of b0 (by simpa using b1)⟩
  refine ⟨d, hd, by decide, by decide, by omega, fun r3 c0 c1 => ?_⟩
  obtain rfl | rfl : r3 = 0 ∨ r3 = 1 := by dsimp only at c1; omega
  · exact ⟨[c], rfl, h _ rfl⟩
  · exact ⟨[d], rfl, h _ rfl⟩
theorem spoilt4 {t : Text} {n : Nat} {C : Text → Nat → Prop} (hl : t.length ≤ 64) (hn : n + 100 < 2 ^ 40) (h : ∀ u n', u.length ≤ 700 → n' ≤ n + 30 → C u n') : m__law_spoilt (t, ()) n C := by
  unfold m__law_spoilt
  refine ⟨by decide, by decide, by omega, fun r a0 a1 => ⟨⟨by omega, by dsimp only at a1; omega⟩, ?_⟩⟩
  dsimp only at a1 ⊢
  refine forB_by (fun (xs : List Int) (c : Text) (s : Nat) => (c.length + 1) * 2 ^ xs.length ≤ 700 ∧ s + 8 * xs.length ≤ n + 30) ?_ _ _ _ ⟨?_, ?_⟩ ?_
  · rintro c s ⟨h1, h2⟩
    simp at h1
    refine ⟨hz1000 (by omega), h _ _ ?_ (by omega)⟩
    have := cut_len c none (some (700 : Int))
    omega
  · rw [Fc.rg_length]
    have e : (2 : Nat) ^ (1 + r).toNat ≤ 2 ^ 3 := Nat.pow_le_pow_right (by decide) (by omega)
    have := Nat.mul_le_mul (show t.length + 1 ≤ 65 by omega) e
    omega
  · rw [Fc.rg_length]; omega
  · rintro x xs c s ⟨h1, h2⟩ kn hk
    rw [List.length_cons] at h1 h2
    have p2 : 0 < 2 ^ xs.length := Nat.pow_pos (by decide)
    have c1 : (c.length + 1) * 2 ≤ 700 := Nat.le_trans (Nat.mul_le_mul_left _ (by rw [Nat.pow_succ]; omega)) h1
    have grow : ∀ u : Text, u.length + 1 ≤ 2 * (c.length + 1) → (u.length + 1) * 2 ^ xs.length ≤ 700 := fun u hu => by
      have := Nat.mul_le_mul_right (2 ^ xs.length) hu
      have e : 2 * (c.length + 1) * 2 ^ xs.length = (c.length + 1) * 2 ^ (xs.length + 1) := by rw [Nat.pow_succ, Nat.mul_comm 2 (c.length + 1), Nat.mul_assoc, Nat.mul_comm 2]
      omega
    refine ⟨hz1000 (by omega), by dsimp only; omega, by dsimp only; omega, by omega, fun r1 b0 b1 => ⟨hz1000 (by omega), by decide, by decide, by omega, fun r2 d0 d1 => ?_⟩⟩
    dsimp only at b1 d1
    obtain ⟨y, hy⟩ : ∃ y, atI [r1, max2 (0 : Int) ((c.length : Int) - (1 : Int)), (0 : Int)] r2 = some y := ⟨_, Sm.atI_of d0 (by simpa using d1)⟩
    refine ⟨y, hy, law_sign_by (by omega) fun g gl => ?_⟩
    have l1 := cut_len c none (some y)
    have l2 := cut_len c (some y) none
    have l3 := cut_len c (some (y + (1 : Int))) none
    have z : ∀ {m : Nat}, m ≤ 100000 → m ≤ sizeLine := fun q => Nat.le_trans q (by decide)
    refine ⟨z (by omega), z (by omega), z (by omega), z (by rw [List.length_append]; omega), z (by omega), z (by omega), z (by omega), z (by rw [List.length_append]; omega), z (by omega), z (by omega), z (by omega), z (by omega), z (by omega), by decide, by decide, by omega, fun r3 e0 e1 => ⟨by decide, ?_⟩⟩
    obtain ⟨w, hw⟩ : ∃ w, atI ([48, 49] : Text) r3 = some w := ⟨_, Sm.atI_of e0 (by simpa using e1)⟩
    refine ⟨w, hw, z (by simp; omega), z (by simp), by decide, by decide, by omega, fun r4 f0 f1 => ?_⟩
    obtain ⟨v, hv, vm⟩ := atI_mem' (xs := [((cutG c none (some y)) ++ g) ++ cutG c (some y) none, ((cutG c none (some y)) ++ g) ++ cutG c (some (y + (1 : Int))) none, (cutG c none (some y)) ++ cutG c (some (y + (1 : Int))) none, cutG c none (some y)] ++ [c ++ c, c ++ [w]]) (i := r4) f0 (by simpa using f1)
    refine ⟨v, hv, hk _ _ ⟨grow v ?_, by omega⟩⟩
    simp only [List.mem_append, List.mem_cons, List.not_mem_nil, or_false] at vm
    rcases vm with (rfl | rfl | rfl | rfl) | rfl | rfl <;> (try simp only [List.length_append, List.length_singleton]) <;> omega
theorem drawn_digits {m n : Nat} {C : List Text → Nat → Prop} (hm : m ≤ 700) (hn : n + 1000 < 2 ^ 40) (h : ∀ ys n', ys.length = m → (∀ y ∈ ys, ∃ c, y = [c] ∧ (c = 48 ∨ c = 49 ∨ c = 42)) → n' ≤ n + 700 → C ys n') :
    compW (fun (k31 : Int) (s32 : Nat) k34 => nextD ((2 : Int), ()) s32 (fun r47 s48 => (([48, 49] : Text).length ≤ sizeLine ∧ ∃ c46, atI ([48, 49] : Text) r47 = some c46 ∧ k34 (some ([c46])) s48))) C (rg 0 m) n [] := by
  refine compW_by (fun xs acc s => acc.length + xs.length = m ∧ s + xs.length ≤ n + 700 ∧ ∀ y ∈ acc, ∃ c, y = [c] ∧ (c = 48 ∨ c = 49 ∨ c = 42)) ?_ _ _ _ ⟨by rw [Fc.rg_length]; simp, by rw [Fc.rg_length]; omega, fun y hy => by cases hy⟩ ?_
  · rintro ys s ⟨h1, h2, h3⟩
    exact h ys s (by simpa using h1) h3 (by omega)
  · rintro x xs acc s ⟨h1, h2, h3⟩ kk hk
    rw [List.length_cons] at h1 h2
    refine ⟨by decide, by decide, by omega, fun r a0 a1 => ⟨by decide, ?_⟩⟩
    obtain rfl | rfl : r = 0 ∨ r = 1 := by dsimp only at a1; omega
    · exact ⟨48, rfl, hk _ _ ⟨by simp only [List.length_append, List.length_singleton]; omega, by omega, fun y hy => (List.mem_append.mp hy).elim (h3 y) fun q => ⟨48, List.mem_singleton.mp q, .inl rfl⟩⟩⟩
    · exact ⟨49, rfl, hk _ _ ⟨by simp only [List.length_append, List.length_singleton]; omega, by omega, fun y hy => (List.mem_append.mp hy).elim (h3 y) fun q => ⟨49, List.mem_singleton.mp q, .inr (.inl rfl)⟩⟩⟩
theorem none_wrong {L : List Text} {S : Type} {s : S} {C : List Text → S → Prop} (hL : ∀ t ∈ L, t.length ≤ 1000) (h : C [] s) : compW (fun (odd36 : Text) (s37 : S) k39 => m__law_right (odd36, ()) () (fun r42 _ => (if (!r42) = true then k39 (some odd36) s37 else k39 none s37))) C L s [] := by
  refine compW_fm (fun _ => none) _ _ _ (fun t ht s kk q => law_right_by (Nat.le_trans (hL t ht) (by decide)) (by rw [if_neg (by decide)]; exact q)) ?_
  rw [List.nil_append, List.filterMap_eq_nil_iff.mpr fun _ _ => rfl]
  exact h
theorem law_true (ns : List Int) (hl : ns.length ≤ 63) : m_law (ns, ()) () fun y _ => y = true := by
  unfold m_law
  dsimp only
  refine deck_ok hl fun y hy => ⟨hy, ⟨by decide, by decide⟩, ?_⟩
  refine forB_by (fun (xs : List Int) (_ : Unit) (s : Nat) => s + 2000 * xs.length ≤ 12000) ?_ _ _ _ (by decide) ?_
  · rintro _ s hs
    refine ⟨⟨by decide, by decide, by decide⟩, by decide, by decide, by decide, by simp at hs; omega, fun r a0 a1 => ?_⟩
    obtain ⟨y, hy⟩ : ∃ y, atI [[32, 78, 111, 32, 115, 117, 99, 104, 58, 32, 55], ([] : Text), [97, 32, 32, 66], ((mulT ([120]) (60 : Int)) ++ [10])] r = some y := ⟨_, Sm.atI_of a0 (by simpa using a1)⟩
    refine ⟨y, hy, ⟨by simp, by decide, by decide⟩, ?_⟩
    have e2 : mulT ([y] : List Text) (2 : Int) = [y, y] := rfl
    rw [e2, if_neg (by simp [eqB])]
    refine jn_by (fun b _ => b = false) (fun kj hj => ?_) ?_
    · refine noset_by (n := 7) (by decide) ⟨_, rfl, kind_set ?_⟩
      rw [if_neg (by decide)]
      unfold m_NoCorner___init__
      exact ⟨by decide, rfl, rfl, _, rfl, kind_corner (hj _ _ (by decide))⟩
    · rintro b s2 rfl
      rw [if_neg (by decide)]
      refine ⟨⟨by decide, by decide, by decide⟩, by decide, none_wrong (fun t ht => ?_) (by decide)⟩
      simp only [List.mem_cons, List.not_mem_nil, or_false] at ht
      rcases ht with rfl | rfl | rfl | rfl | rfl | rfl | rfl | rfl | rfl <;> decide
  · rintro x xs _ s hs kn hk
    rw [List.length_cons] at hs
    refine law_bits_by (by omega) fun bi b1 b6 => ?_
    obtain ⟨b, rfl⟩ := Int.eq_ofNat_of_zero_le (show (0 : Int) ≤ bi by omega)
    have hb : b ≤ 6 := by omega
    have h64 := p64 hb
    have al := allC_length b
    refine set_by hb (by omega) fun z n1 zs n1l => ?_
    dsimp only
    refine all_by hb ⟨hz1000 (by omega), compW_fm (fun c => some [if memB c z = true then 49 else 48]) _ _ _ (fun c _ s kk q => ⟨by decide, (if memB c z = true then 49 else 48), ?_, q⟩) ?_⟩
    · cases memB c z <;> rfl
    have e : (allC b).filterMap (fun c => some [if memB c z = true then 49 else 48]) = (allC b).map fun c => [if memB c z = true then 49 else 48] := by rw [List.filterMap_eq_map']
    rw [List.nil_append, e]
    refine ⟨?_, ⟨by decide, by decide⟩, by decide, ?_⟩
    · rw [single_len (fun y hy => by obtain ⟨c, _, rfl⟩ := List.mem_map.mp hy; rfl), List.length_map, al]
      simp; omega
    have ej : joinT ([] : Text) ((allC b).map fun c => [if memB c z = true then 49 else 48]) = shw b z := by
      rw [Fc.joinT_nil, flat_map_one]; rfl
    rw [ej]
    have tl : (shw b z).length ≤ 64 := by rw [shw_length]; omega
    refine compW_by (fun xs acc (s : Nat) => acc.length + xs.length = 6 ∧ (∀ u ∈ acc, u.length ≤ 700) ∧ s + 30 * xs.length ≤ n1 + 180) ?_ _ _ _ ⟨by decide, (fun u hu => by cases hu), Nat.le_refl _⟩ ?_
    · rintro L s2 ⟨L6, Lu, s2l⟩
      simp only [List.length_nil] at L6 s2l
      have z3 : ∀ {m : Nat}, m ≤ 100000 → m ≤ sizeLine := fun q => Nat.le_trans q (by decide)
      refine ⟨z3 (by simp; omega), z3 (by simp; omega), z3 (by simp; omega), z3 (by omega), z3 (by omega), z3 (by simp; omega), z3 (by simp; omega), by decide, by decide, by omega, fun r1 a0 a1 => ⟨by decide, by decide, by omega, fun r2 c0 c1 => ⟨by decide, by decide, by omega, fun r3 d0 d1 => ?_⟩⟩⟩
      dsimp only at a1 c1 d1
      obtain ⟨y2, hy2, y2l, y2h⟩ : ∃ y2, atI [r1, r2, (2 : Int), (64 : Int), (128 : Int), (700 : Int)] r3 = some y2 ∧ 0 ≤ y2 ∧ y2 ≤ 700 := by
        obtain rfl | rfl | rfl | rfl | rfl | rfl : r3 = 0 ∨ r3 = 1 ∨ r3 = 2 ∨ r3 = 3 ∨ r3 = 4 ∨ r3 = 5 := by omega
        · exact ⟨_, rfl, by omega, by omega⟩
        · exact ⟨_, rfl, by omega, by omega⟩
        · exact ⟨_, rfl, by omega, by omega⟩
        · exact ⟨_, rfl, by omega, by omega⟩
        · exact ⟨_, rfl, by omega, by omega⟩
        · exact ⟨_, rfl, by omega, by omega⟩
      refine ⟨y2, hy2, ⟨by omega, by omega⟩, z3 (by rw [Fc.rg_length]; omega), drawn_digits (by omega) (by omega) fun ys n3 yl y1 n3l => ?_⟩
      obtain ⟨f1, _⟩ := flat_one y1
      refine ⟨?_, Nat.lt_of_le_of_lt (m := 100) (by simp; omega) (by decide), law_sign_by (by omega) fun g gl => ⟨z3 (by simp; omega), z3 (by simp; omega), none_wrong (fun t ht => ?_) ?_⟩⟩
      · rw [sum_one y1]; simp; omega
      · have l1 := cut_len (shw b z) none (some (-(1 : Int)))
        rw [Fc.joinT_nil] at ht
        simp only [List.mem_append, List.mem_cons, List.not_mem_nil, or_false] at ht
        rcases ht with ((ht | ht) | ht) | ht
        · have := Lu t ht; omega
        · rcases ht with rfl | rfl | rfl | rfl | rfl | rfl | rfl <;> (try simp only [List.length_append, List.length_cons, List.length_nil]) <;> omega
        · rw [ht, f1]; omega
        · rw [ht]; omega
      · rw [if_neg (by decide)]
        exact hk _ _ (by omega)
    · rintro x2 xs2 acc s2 ⟨h1, h2, h3⟩ kk hkk
      rw [List.length_cons] at h1 h3
      refine spoilt4 tl (by omega) fun u n4 ul n4l => hkk _ _ ⟨by simp only [List.length_append, List.length_singleton]; omega, fun v hv => ?_, by omega⟩
      rcases List.mem_append.mp hv with q | q
      · exact h2 v q
      · rw [List.mem_singleton.mp q]; exact ul

end G

set_option Elab.async false
set_option linter.all false
set_option maxRecDepth 100000
set_option maxHeartbeats 4000000
namespace G
open PySem PySem.Spec PyProof.Rows L2 Sm
theorem all_mk {l : PySem.W.OpenLaw} {w : World} {K : PySem.W.Frag} {h : Heap} {mg : Str → Option Value} {fa f1 f2 f3 f4 f5 f6 f7 f8 f9 f10 f11 f12 f13 f14 f15 f16 f17 f18 : Addr} (X : K.In h) (G : h.Ns mainGlobals mg) (hfa : mg "law" = some (.ref fa))
    {od1 an1 od2 an2 od3 an3 od4 an4 od5 an5 od6 an6 od7 an7 od8 an8 od9 an9 od10 an10 od11 an11 od12 an12 od13 an13 od14 an14 od15 an15 od16 an16 od17 an17 od18 an18 : Option Addr} {sl1 sl2 sl3 sl4 sl5 sl6 sl7 sl8 sl9 sl10 sl11 sl12 sl13 sl14 sl15 sl16 sl17 sl18 : Array (Option Value)} {oc1 kV1 dc1 pm1 cd1 ct1 oc2 kV2 dc2 pm2 cd2 ct2 oc3 kV3 dc3 pm3 cd3 ct3 oc4 kV4 dc4 pm4 cd4 ct4 oc5 kV5 dc5 pm5 cd5 ct5 oc6 kV6 dc6 pm6 cd6 ct6 oc7 kV7 dc7 pm7 cd7 ct7 oc8 kV8 dc8 pm8 cd8 ct8 oc9 kV9 dc9 pm9 cd9 ct9 oc10 kV10 dc10 pm10 cd10 ct10 oc11 kV11 dc11 pm11 cd11 ct11 oc12 kV12 dc12 pm12 cd12 ct12 oc13 kV13 dc13 pm13 cd13 ct13 oc14 kV14 dc14 pm14 cd14 ct14 oc15 kV15 dc15 pm15 cd15 ct15 oc16 kV16 dc16 pm16 cd16 ct16 oc17 kV17 dc17 pm17 cd17 ct17 oc18 kV18 dc18 pm18 cd18 ct18 : Value}
    {C_NoSet C_NoCorner C_NoParting C_NoAsk C_FaceError : Addr} {nm_NoSet q_NoSet : Str} {N_NoSet : Addr} {bs_NoSet : List Value} {sn_NoSet : List Str} {sub_NoSet : List Value} {ab_NoSet : Bool} {col_NoSet : Option Bool} {dd_NoSet : Option Addr} {m0_NoSet m1_NoSet m2_NoSet m3_NoSet m5_NoSet : Option Value} {nm_NoCorner q_NoCorner : Str} {N_NoCorner : Addr} {bs_NoCorner : List Value} {sn_NoCorner : List Str} {sub_NoCorner : List Value} {ab_NoCorner : Bool} {col_NoCorner : Option Bool} {dd_NoCorner : Option Addr} {m0_NoCorner m1_NoCorner m2_NoCorner m3_NoCorner m5_NoCorner : Option Value} (aC_NoSet : PySem.W.nsIn K mainGlobals "NoSet" = some (some (.ref C_NoSet))) (aC_NoCorner : PySem.W.nsIn K mainGlobals "NoCorner" = some (some (.ref C_NoCorner))) (aC_NoParting : PySem.W.nsIn K mainGlobals "NoParting" = some (some (.ref C_NoParting))) (aC_NoAsk : PySem.W.nsIn K mainGlobals "NoAsk" = some (some (.ref C_NoAsk))) (aC_FaceError : PySem.W.nsIn K mainGlobals "FaceError" = some (some (.ref C_FaceError))) (hg_NoSet : PySem.W.findIn K (.ref C_NoSet) "__getattribute__" = some (some (.builtin "BaseException.__getattribute__"))) (hk_NoSet : PySem.W.findIn K (.ref C_NoSet) "__getattr__" = some none) (hs_NoSet : PySem.W.subIn K (.ref C_NoSet) (.type "BaseException") = some true) (hd_NoSet : PySem.W.hasDictIn K C_NoSet = true) (ha_NoSet : PySem.W.findIn K (.ref C_NoSet) "__class__" = some (some (.builtin "object.__class__"))) (hm_NoSet : PySem.W.mroIn K C_NoSet (.type "object") = some true) (sf_NoSet : PySem.W.subIn K (.ref C_NoSet) (.ref C_FaceError) = some true) (ty_NoSet : PySem.W.typeIn K (.ref C_NoSet) = some (.type "type")) (kc_NoSet : PySem.W.keepIn K (.ref C_NoSet) = true) (kt_NoSet_NoSet : PySem.W.kitOne K (.ref C_NoSet) (.ref C_NoSet) = some true) (kt_NoSet_NoCorner : PySem.W.kitOne K (.ref C_NoSet) (.ref C_NoCorner) = some false) (kt_NoSet_NoParting : PySem.W.kitOne K (.ref C_NoSet) (.ref C_NoParting) = some false) (kt_NoSet_NoAsk : PySem.W.kitOne K (.ref C_NoSet) (.ref C_NoAsk) = some false) (kt_NoSet_FaceError : PySem.W.kitOne K (.ref C_NoSet) (.ref C_FaceError) = some true) (kv_NoSet : PySem.W.kitOne K (.ref C_NoSet) (.type "ValueError") = some true) (hg_NoCorner : PySem.W.findIn K (.ref C_NoCorner) "__getattribute__" = some (some (.builtin "BaseException.__getattribute__"))) (hk_NoCorner : PySem.W.findIn K (.ref C_NoCorner) "__getattr__" = some none) (hs_NoCorner : PySem.W.subIn K (.ref C_NoCorner) (.type "BaseException") = some true) (hd_NoCorner : PySem.W.hasDictIn K C_NoCorner = true) (ha_NoCorner : PySem.W.findIn K (.ref C_NoCorner) "__class__" = some (some (.builtin "object.__class__"))) (hm_NoCorner : PySem.W.mroIn K C_NoCorner (.type "object") = some true) (sf_NoCorner : PySem.W.subIn K (.ref C_NoCorner) (.ref C_FaceError) = some true) (ty_NoCorner : PySem.W.typeIn K (.ref C_NoCorner) = some (.type "type")) (kc_NoCorner : PySem.W.keepIn K (.ref C_NoCorner) = true) (kt_NoCorner_NoSet : PySem.W.kitOne K (.ref C_NoCorner) (.ref C_NoSet) = some false) (kt_NoCorner_NoCorner : PySem.W.kitOne K (.ref C_NoCorner) (.ref C_NoCorner) = some true) (kt_NoCorner_NoParting : PySem.W.kitOne K (.ref C_NoCorner) (.ref C_NoParting) = some false) (kt_NoCorner_NoAsk : PySem.W.kitOne K (.ref C_NoCorner) (.ref C_NoAsk) = some false) (kt_NoCorner_FaceError : PySem.W.kitOne K (.ref C_NoCorner) (.ref C_FaceError) = some true) (kv_NoCorner : PySem.W.kitOne K (.ref C_NoCorner) (.type "ValueError") = some true) (hg_NoParting : PySem.W.findIn K (.ref C_NoParting) "__getattribute__" = some (some (.builtin "BaseException.__getattribute__"))) (hk_NoParting : PySem.W.findIn K (.ref C_NoParting) "__getattr__" = some none) (hs_NoParting : PySem.W.subIn K (.ref C_NoParting) (.type "BaseException") = some true) (hd_NoParting : PySem.W.hasDictIn K C_NoParting = true) (ha_NoParting : PySem.W.findIn K (.ref C_NoParting) "__class__" = some (some (.builtin "object.__class__"))) (hm_NoParting : PySem.W.mroIn K C_NoParting (.type "object") = some true) (sf_NoParting : PySem.W.subIn K (.ref C_NoParting) (.ref C_FaceError) = some true) (ty_NoParting : PySem.W.typeIn K (.ref C_NoParting) = some (.type "type")) (kc_NoParting : PySem.W.keepIn K (.ref C_NoParting) = true) (kt_NoParting_NoSet : PySem.W.kitOne K (.ref C_NoParting) (.ref C_NoSet) = some false) (kt_NoParting_NoCorner : PySem.W.kitOne K (.ref C_NoParting) (.ref C_NoCorner) = some false) (kt_NoParting_NoParting : PySem.W.kitOne K (.ref C_NoParting) (.ref C_NoParting) = some true) (kt_NoParting_NoAsk : PySem.W.kitOne K (.ref C_NoParting) (.ref C_NoAsk) = some false) (kt_NoParting_FaceError : PySem.W.kitOne K (.ref C_NoParting) (.ref C_FaceError) = some true) (kv_NoParting : PySem.W.kitOne K (.ref C_NoParting) (.type "ValueError") = some true) (hg_NoAsk : PySem.W.findIn K (.ref C_NoAsk) "__getattribute__" = some (some (.builtin "BaseException.__getattribute__"))) (hk_NoAsk : PySem.W.findIn K (.ref C_NoAsk) "__getattr__" = some none) (hs_NoAsk : PySem.W.subIn K (.ref C_NoAsk) (.type "BaseException") = some true) (hd_NoAsk : PySem.W.hasDictIn K C_NoAsk = true) (ha_NoAsk : PySem.W.findIn K (.ref C_NoAsk) "__class__" = some (some (.builtin "object.__class__"))) (hm_NoAsk : PySem.W.mroIn K C_NoAsk (.type "object") = some true) (sf_NoAsk : PySem.W.subIn K (.ref C_NoAsk) (.ref C_FaceError) = some true) (ty_NoAsk : PySem.W.typeIn K (.ref C_NoAsk) = some (.type "type")) (kc_NoAsk : PySem.W.keepIn K (.ref C_NoAsk) = true) (kt_NoAsk_NoSet : PySem.W.kitOne K (.ref C_NoAsk) (.ref C_NoSet) = some false) (kt_NoAsk_NoCorner : PySem.W.kitOne K (.ref C_NoAsk) (.ref C_NoCorner) = some false) (kt_NoAsk_NoParting : PySem.W.kitOne K (.ref C_NoAsk) (.ref C_NoParting) = some false) (kt_NoAsk_NoAsk : PySem.W.kitOne K (.ref C_NoAsk) (.ref C_NoAsk) = some true) (kt_NoAsk_FaceError : PySem.W.kitOne K (.ref C_NoAsk) (.ref C_FaceError) = some true) (kv_NoAsk : PySem.W.kitOne K (.ref C_NoAsk) (.type "ValueError") = some true) (hn_ : PySem.W.specialIn K (.builtin "object.__class__") "__get__" = some (some (.builtin "getset_descriptor.__get__"))) (ht_ : PySem.W.takesIn K (.builtin "object.__class__") = some true) (bF_ : PySem.W.subIn K (.ref C_FaceError) (.type "BaseException") = some true) (dF_ : PySem.W.hasDictIn K C_FaceError = true) (tF_ : PySem.W.typeIn K (.ref C_FaceError) = some (.type "type")) (nf_NoSet : PySem.W.findIn K (.ref C_NoSet) "place" = some none) (sa_NoSet : PySem.W.findIn K (.ref C_NoSet) "__setattr__" = some (some (.builtin "object.__setattr__"))) (xL_NoSet : K.lookup C_NoSet = some (excClassObj nm_NoSet q_NoSet C_NoSet N_NoSet bs_NoSet [.ref C_FaceError, .type "ValueError", .type "Exception", .type "BaseException", .type "object"] true sn_NoSet sub_NoSet ab_NoSet col_NoSet dd_NoSet m0_NoSet m1_NoSet m2_NoSet m3_NoSet m5_NoSet "ValueError.__new__")) (nf_NoCorner : PySem.W.findIn K (.ref C_NoCorner) "corner" = some none) (sa_NoCorner : PySem.W.findIn K (.ref C_NoCorner) "__setattr__" = some (some (.builtin "object.__setattr__"))) (xL_NoCorner : K.lookup C_NoCorner = some (excClassObj nm_NoCorner q_NoCorner C_NoCorner N_NoCorner bs_NoCorner [.ref C_FaceError, .type "ValueError", .type "Exception", .type "BaseException", .type "object"] true sn_NoCorner sub_NoCorner ab_NoCorner col_NoCorner dd_NoCorner m0_NoCorner m1_NoCorner m2_NoCorner m3_NoCorner m5_NoCorner "ValueError.__new__")) (bg_ : PySem.W.specialIn K (.ref C_FaceError) "__getattribute__" = some (some (.builtin "type.__getattribute__"))) (br_ : PySem.W.readsIn K C_FaceError (.type "type") = true) (bf_ : PySem.W.findCls K (.ref C_FaceError) (.type "type") "__init__" = some (.val (.builtin "ValueError.__init__"))) (xe_NoParting : PySem.W.excIn K C_NoParting veL "ValueError.__new__" = true) (st_NoParting : PySem.W.findIn K (.ref C_NoParting) "__str__" = some (some (.builtin "BaseException.__str__"))) (xe_NoAsk : PySem.W.excIn K C_NoAsk veL "ValueError.__new__" = true) (st_NoAsk : PySem.W.findIn K (.ref C_NoAsk) "__str__" = some (some (.builtin "BaseException.__str__")))
    (a1 : PySem.W.findIn K (.ref C_NoSet) "__init__" = some (some (.ref f1))) (i1 : PySem.W.typeIn K (.ref f1) = some (.type "function")) (l1 : K.lookup f1 = some ⟨oc1, od1, .func (PySem.W.fnOf "__init__" "NoSet.__init__" (defArgs s_NoSet___init__) (defBody s_NoSet___init__) (defScope s_NoSet___init__) .none kV1 dc1 pm1 an1 cd1 ct1), sl1⟩) (c1 : PySem.W.codeIn K cd1 "NoSet.__init__" = true) (k1 : PySem.W.keepIn K (.ref f1) = true)
    (a2 : PySem.W.findIn K (.ref C_NoCorner) "__init__" = some (some (.ref f2))) (i2 : PySem.W.typeIn K (.ref f2) = some (.type "function")) (l2 : K.lookup f2 = some ⟨oc2, od2, .func (PySem.W.fnOf "__init__" "NoCorner.__init__" (defArgs s_NoCorner___init__) (defBody s_NoCorner___init__) (defScope s_NoCorner___init__) .none kV2 dc2 pm2 an2 cd2 ct2), sl2⟩) (c2 : PySem.W.codeIn K cd2 "NoCorner.__init__" = true) (k2 : PySem.W.keepIn K (.ref f2) = true)
    (a3 : PySem.W.nsIn K mainGlobals "corners_of" = some (some (.ref f3))) (l3 : K.lookup f3 = some ⟨oc3, od3, .func (PySem.W.fnOf "corners_of" "corners_of" (defArgs s_corners_of) (defBody s_corners_of) (defScope s_corners_of) .none kV3 dc3 pm3 an3 cd3 ct3), sl3⟩) (c3 : PySem.W.codeIn K cd3 "corners_of" = true) (k3 : PySem.W.keepIn K (.ref f3) = true)
    (a4 : PySem.W.nsIn K mainGlobals "read_set" = some (some (.ref f4))) (l4 : K.lookup f4 = some ⟨oc4, od4, .func (PySem.W.fnOf "read_set" "read_set" (defArgs s_read_set) (defBody s_read_set) (defScope s_read_set) .none kV4 dc4 pm4 an4 cd4 ct4), sl4⟩) (c4 : PySem.W.codeIn K cd4 "read_set" = true) (k4 : PySem.W.keepIn K (.ref f4) = true)
    (a5 : PySem.W.nsIn K mainGlobals "_law_mix" = some (some (.ref f5))) (l5 : K.lookup f5 = some ⟨oc5, od5, .func (PySem.W.fnOf "_law_mix" "_law_mix" (defArgs s__law_mix) (defBody s__law_mix) (defScope s__law_mix) .none kV5 dc5 pm5 an5 cd5 ct5), sl5⟩) (c5 : PySem.W.codeIn K cd5 "_law_mix" = true) (k5 : PySem.W.keepIn K (.ref f5) = true)
    (a6 : PySem.W.nsIn K mainGlobals "_law_deck" = some (some (.ref f6))) (l6 : K.lookup f6 = some ⟨oc6, od6, .func (PySem.W.fnOf "_law_deck" "_law_deck" (defArgs s__law_deck) (defBody s__law_deck) (defScope s__law_deck) .none kV6 dc6 pm6 an6 cd6 ct6), sl6⟩) (c6 : PySem.W.codeIn K cd6 "_law_deck" = true) (k6 : PySem.W.keepIn K (.ref f6) = true)
    (a7 : PySem.W.nsIn K mainGlobals "_law_next" = some (some (.ref f7))) (l7 : K.lookup f7 = some ⟨oc7, od7, .func (PySem.W.fnOf "_law_next" "_law_next" (defArgs s__law_next) (defBody s__law_next) (defScope s__law_next) .none kV7 dc7 pm7 an7 cd7 ct7), sl7⟩) (c7 : PySem.W.codeIn K cd7 "_law_next" = true) (k7 : PySem.W.keepIn K (.ref f7) = true)
    (a8 : PySem.W.nsIn K mainGlobals "_law_bits" = some (some (.ref f8))) (l8 : K.lookup f8 = some ⟨oc8, od8, .func (PySem.W.fnOf "_law_bits" "_law_bits" (defArgs s__law_bits) (defBody s__law_bits) (defScope s__law_bits) .none kV8 dc8 pm8 an8 cd8 ct8), sl8⟩) (c8 : PySem.W.codeIn K cd8 "_law_bits" = true) (k8 : PySem.W.keepIn K (.ref f8) = true)
    (a9 : PySem.W.nsIn K mainGlobals "_law_face" = some (some (.ref f9))) (l9 : K.lookup f9 = some ⟨oc9, od9, .func (PySem.W.fnOf "_law_face" "_law_face" (defArgs s__law_face) (defBody s__law_face) (defScope s__law_face) .none kV9 dc9 pm9 an9 cd9 ct9), sl9⟩) (c9 : PySem.W.codeIn K cd9 "_law_face" = true) (k9 : PySem.W.keepIn K (.ref f9) = true)
    (a10 : PySem.W.nsIn K mainGlobals "_law_all" = some (some (.ref f10))) (l10 : K.lookup f10 = some ⟨oc10, od10, .func (PySem.W.fnOf "_law_all" "_law_all" (defArgs s__law_all) (defBody s__law_all) (defScope s__law_all) .none kV10 dc10 pm10 an10 cd10 ct10), sl10⟩) (c10 : PySem.W.codeIn K cd10 "_law_all" = true) (k10 : PySem.W.keepIn K (.ref f10) = true)
    (a11 : PySem.W.nsIn K mainGlobals "_law_lies" = some (some (.ref f11))) (l11 : K.lookup f11 = some ⟨oc11, od11, .func (PySem.W.fnOf "_law_lies" "_law_lies" (defArgs s__law_lies) (defBody s__law_lies) (defScope s__law_lies) .none kV11 dc11 pm11 an11 cd11 ct11), sl11⟩) (c11 : PySem.W.codeIn K cd11 "_law_lies" = true) (k11 : PySem.W.keepIn K (.ref f11) = true)
    (a12 : PySem.W.nsIn K mainGlobals "_law_set" = some (some (.ref f12))) (l12 : K.lookup f12 = some ⟨oc12, od12, .func (PySem.W.fnOf "_law_set" "_law_set" (defArgs s__law_set) (defBody s__law_set) (defScope s__law_set) .none kV12 dc12 pm12 an12 cd12 ct12), sl12⟩) (c12 : PySem.W.codeIn K cd12 "_law_set" = true) (k12 : PySem.W.keepIn K (.ref f12) = true)
    (a13 : PySem.W.nsIn K mainGlobals "_law_kind" = some (some (.ref f13))) (l13 : K.lookup f13 = some ⟨oc13, od13, .func (PySem.W.fnOf "_law_kind" "_law_kind" (defArgs s__law_kind) (defBody s__law_kind) (defScope s__law_kind) .none kV13 dc13 pm13 an13 cd13 ct13), sl13⟩) (c13 : PySem.W.codeIn K cd13 "_law_kind" = true) (k13 : PySem.W.keepIn K (.ref f13) = true)
    (a14 : PySem.W.nsIn K mainGlobals "_law_sign" = some (some (.ref f14))) (l14 : K.lookup f14 = some ⟨oc14, od14, .func (PySem.W.fnOf "_law_sign" "_law_sign" (defArgs s__law_sign) (defBody s__law_sign) (defScope s__law_sign) .none kV14 dc14 pm14 an14 cd14 ct14), sl14⟩) (c14 : PySem.W.codeIn K cd14 "_law_sign" = true) (k14 : PySem.W.keepIn K (.ref f14) = true)
    (a15 : PySem.W.nsIn K mainGlobals "_law_spoilt" = some (some (.ref f15))) (l15 : K.lookup f15 = some ⟨oc15, od15, .func (PySem.W.fnOf "_law_spoilt" "_law_spoilt" (defArgs s__law_spoilt) (defBody s__law_spoilt) (defScope s__law_spoilt) .none kV15 dc15 pm15 an15 cd15 ct15), sl15⟩) (c15 : PySem.W.codeIn K cd15 "_law_spoilt" = true) (k15 : PySem.W.keepIn K (.ref f15) = true)
    (a16 : PySem.W.nsIn K mainGlobals "_law_due" = some (some (.ref f16))) (l16 : K.lookup f16 = some ⟨oc16, od16, .func (PySem.W.fnOf "_law_due" "_law_due" (defArgs s__law_due) (defBody s__law_due) (defScope s__law_due) .none kV16 dc16 pm16 an16 cd16 ct16), sl16⟩) (c16 : PySem.W.codeIn K cd16 "_law_due" = true) (k16 : PySem.W.keepIn K (.ref f16) = true)
    (a17 : PySem.W.nsIn K mainGlobals "_law_right" = some (some (.ref f17))) (l17 : K.lookup f17 = some ⟨oc17, od17, .func (PySem.W.fnOf "_law_right" "_law_right" (defArgs s__law_right) (defBody s__law_right) (defScope s__law_right) .none kV17 dc17 pm17 an17 cd17 ct17), sl17⟩) (c17 : PySem.W.codeIn K cd17 "_law_right" = true) (k17 : PySem.W.keepIn K (.ref f17) = true)
    (a18 : PySem.W.nsIn K mainGlobals "law" = some (some (.ref f18))) (l18 : K.lookup f18 = some ⟨oc18, od18, .func (PySem.W.fnOf "law" "law" (defArgs s_law) (defBody s_law) (defScope s_law) .none kV18 dc18 pm18 an18 cd18 ct18), sl18⟩) (c18 : PySem.W.codeIn K cd18 "law" = true) (k18 : PySem.W.keepIn K (.ref f18) = true)
    {t_MOST_BITS : Tok} (q_MOST_BITS : PySem.W.nsIn K mainGlobals "MOST_BITS" = some (some (.int (6 : Int) t_MOST_BITS)))
    (z_ValueError : PySem.W.nsIn K mainGlobals "ValueError" = some none) (z_bool : PySem.W.nsIn K mainGlobals "bool" = some none) (z_enumerate : PySem.W.nsIn K mainGlobals "enumerate" = some none) (z_int : PySem.W.nsIn K mainGlobals "int" = some none) (z_isinstance : PySem.W.nsIn K mainGlobals "isinstance" = some none) (z_len : PySem.W.nsIn K mainGlobals "len" = some none) (z_max : PySem.W.nsIn K mainGlobals "max" = some none) (z_range : PySem.W.nsIn K mainGlobals "range" = some none) (z_str : PySem.W.nsIn K mainGlobals "str" = some none) (z_sum : PySem.W.nsIn K mainGlobals "sum" = some none) (z_tuple : PySem.W.nsIn K mainGlobals "tuple" = some none) (z_zip : PySem.W.nsIn K mainGlobals "zip" = some none) :
    ∃ fd : FuncData, (∀ (s : Shared) (v : Value), BindsTo s fd ⟨[v], []⟩ [("script", v)]) ∧ ∀ base : Heap, K.In base → base.Ns mainGlobals mg → FnOk l.prog w K mg base CX0 5 fa fd ["script"] (sp_law K) := by
  have e := hfa.symm.trans (PySem.W.mg_of X G a18)
  cases e
  have ec_NoSet : ExcC K C_NoSet := ⟨hg_NoSet, hk_NoSet, hs_NoSet, hd_NoSet, ha_NoSet, hn_, ht_, hm_NoSet⟩
  have ec_NoCorner : ExcC K C_NoCorner := ⟨hg_NoCorner, hk_NoCorner, hs_NoCorner, hd_NoCorner, ha_NoCorner, hn_, ht_, hm_NoCorner⟩
  have ec_NoParting : ExcC K C_NoParting := ⟨hg_NoParting, hk_NoParting, hs_NoParting, hd_NoParting, ha_NoParting, hn_, ht_, hm_NoParting⟩
  have ec_NoAsk : ExcC K C_NoAsk := ⟨hg_NoAsk, hk_NoAsk, hs_NoAsk, hd_NoAsk, ha_NoAsk, hn_, ht_, hm_NoAsk⟩
  have exF : ExF K ⟨C_NoSet, C_NoCorner, C_NoParting, C_NoAsk⟩ C_FaceError := ⟨fun ex => by cases ex with | set _ => exact ec_NoSet | corner _ => exact ec_NoCorner | parting => exact ec_NoParting | ask => exact ec_NoAsk, fun ex => by cases ex with | set _ => exact kt_NoSet_NoSet | corner _ => exact kt_NoCorner_NoSet | parting => exact kt_NoParting_NoSet | ask => exact kt_NoAsk_NoSet, fun ex => by cases ex with | set _ => exact kt_NoSet_NoCorner | corner _ => exact kt_NoCorner_NoCorner | parting => exact kt_NoParting_NoCorner | ask => exact kt_NoAsk_NoCorner, fun ex => by cases ex with | set _ => exact kt_NoSet_NoParting | corner _ => exact kt_NoCorner_NoParting | parting => exact kt_NoParting_NoParting | ask => exact kt_NoAsk_NoParting, fun ex => by cases ex with | set _ => exact kt_NoSet_NoAsk | corner _ => exact kt_NoCorner_NoAsk | parting => exact kt_NoParting_NoAsk | ask => exact kt_NoAsk_NoAsk, fun ex => by cases ex with | set _ => exact kt_NoSet_FaceError | corner _ => exact kt_NoCorner_FaceError | parting => exact kt_NoParting_FaceError | ask => exact kt_NoAsk_FaceError, fun ex => by cases ex with | set _ => exact kv_NoSet | corner _ => exact kv_NoCorner | parting => exact kv_NoParting | ask => exact kv_NoAsk, fun ex => by cases ex with | set _ => exact PySem.W.exm_ref bF_ dF_ tF_ sf_NoSet | corner _ => exact PySem.W.exm_ref bF_ dF_ tF_ sf_NoCorner | parting => exact PySem.W.exm_ref bF_ dF_ tF_ sf_NoParting | ask => exact PySem.W.exm_ref bF_ dF_ tF_ sf_NoAsk⟩
  have oe_NoSet : OexC K C_NoSet := ⟨⟨_, _, _, _, _, _, _, _, _, _, _, _, _, _, _, xL_NoSet, by rfl⟩, sa_NoSet, hs_NoSet, ty_NoSet, kc_NoSet⟩
  have oe_NoCorner : OexC K C_NoCorner := ⟨⟨_, _, _, _, _, _, _, _, _, _, _, _, _, _, _, xL_NoCorner, by rfl⟩, sa_NoCorner, hs_NoCorner, ty_NoCorner, kc_NoCorner⟩
  have EX : EXS K mg C_NoSet C_NoCorner C_NoParting C_NoAsk C_FaceError := ⟨exF, (PySem.W.mg_of X G aC_NoSet), (PySem.W.mg_of X G aC_NoCorner), (PySem.W.mg_of X G aC_NoParting), (PySem.W.mg_of X G aC_NoAsk), (PySem.W.mg_of X G aC_FaceError), ⟨hg_NoSet, hk_NoSet, hs_NoSet, hd_NoSet⟩, nf_NoSet, ⟨hg_NoCorner, hk_NoCorner, hs_NoCorner, hd_NoCorner⟩, nf_NoCorner, oe_NoSet, oe_NoCorner, ⟨bg_, br_, bf_⟩, xe_NoParting, xe_NoAsk, kc_NoParting, kc_NoAsk, hs_NoParting, hs_NoAsk, ty_NoParting, ty_NoAsk, st_NoParting, st_NoAsk⟩
  have B : Bl mg := ⟨PySem.W.mg_none_of X G z_ValueError, PySem.W.mg_none_of X G z_bool, PySem.W.mg_none_of X G z_enumerate, PySem.W.mg_none_of X G z_int, PySem.W.mg_none_of X G z_isinstance, PySem.W.mg_none_of X G z_len, PySem.W.mg_none_of X G z_max, PySem.W.mg_none_of X G z_range, PySem.W.mg_none_of X G z_str, PySem.W.mg_none_of X G z_sum, PySem.W.mg_none_of X G z_tuple, PySem.W.mg_none_of X G z_zip⟩
  refine ⟨PySem.W.fnOf "law" "law" (defArgs s_law) (defBody s_law) (defScope s_law) .none kV18 dc18 pm18 an18 cd18 ct18, fun s v => .of_eq rfl, fun base _ _ => ?_⟩
  have F1 := fun_mk (st := s_NoSet___init__) l1 c1 k1
  have b1 := F1.binds (ps := ["self", "place"]) fun _ _ _ _ _ _ us hl => match us, hl with | [_, _], _ => rfl
  have h_NoSet___init__ : HasI l.prog w K mg base "NoSet" C_NoSet 1 ["self", "place"] (sp_NoSet___init__ K C_NoSet) := ⟨⟨_, _, EX.gs, EX.os, a1, i1, b1, ok_NoSet___init__ F1 B  EX  ⟩⟩
  have F2 := fun_mk (st := s_NoCorner___init__) l2 c2 k2
  have b2 := F2.binds (ps := ["self", "corner"]) fun _ _ _ _ _ _ us hl => match us, hl with | [_, _], _ => rfl
  have h_NoCorner___init__ : HasI l.prog w K mg base "NoCorner" C_NoCorner 1 ["self", "corner"] (sp_NoCorner___init__ K C_NoCorner) := ⟨⟨_, _, EX.gc, EX.oc, a2, i2, b2, ok_NoCorner___init__ F2 B  EX  ⟩⟩
  have F3 := fun_mk (st := s_corners_of) l3 c3 k3
  have b3 := F3.binds (ps := ["face"]) fun _ _ _ _ _ _ us hl => match us, hl with | [_], _ => rfl
  have h_corners_of : Has l.prog w K mg base "corners_of" 1 ["face"] (sp_corners_of K) := ⟨⟨_, _, PySem.W.mg_of X G a3, k3, b3, ok_corners_of F3 B  EX  ⟩⟩
  have F4 := fun_mk (st := s_read_set) l4 c4 k4
  have b4 := F4.binds (ps := ["text"]) fun _ _ _ _ _ _ us hl => match us, hl with | [_], _ => rfl
  have h_read_set : HasX l.prog w K mg base "read_set" 3 ["text"] (sp_read_set K C_NoSet C_NoCorner C_NoParting C_NoAsk) := ⟨⟨_, _, PySem.W.mg_of X G a4, k4, b4, ok_read_set F4 B (PySem.W.mg_of X G q_MOST_BITS) EX  h_NoSet___init__ h_corners_of⟩⟩
  have F5 := fun_mk (st := s__law_mix) l5 c5 k5
  have b5 := F5.binds (ps := ["cell", "k"]) fun _ _ _ _ _ _ us hl => match us, hl with | [_, _], _ => rfl
  have h__law_mix : Has l.prog w K mg base "_law_mix" 1 ["cell", "k"] (sp__law_mix K) := ⟨⟨_, _, PySem.W.mg_of X G a5, k5, b5, ok__law_mix F5 B  EX  ⟩⟩
  have F6 := fun_mk (st := s__law_deck) l6 c6 k6
  have b6 := F6.binds (ps := ["script"]) fun _ _ _ _ _ _ us hl => match us, hl with | [_], _ => rfl
  have h__law_deck : Has l.prog w K mg base "_law_deck" 1 ["script"] (sp__law_deck K) := ⟨⟨_, _, PySem.W.mg_of X G a6, k6, b6, ok__law_deck F6 B  EX  ⟩⟩
  have F7 := fun_mk (st := s__law_next) l7 c7 k7
  have b7 := F7.binds (ps := ["deck", "many"]) fun _ _ _ _ _ _ us hl => match us, hl with | [_, _], _ => rfl
  have h__law_next : Has l.prog w K mg base "_law_next" 2 ["deck", "many"] (sp__law_next K) := ⟨⟨_, _, PySem.W.mg_of X G a7, k7, b7, ok__law_next F7 B  EX  h__law_mix⟩⟩
  have h__law_next : Has l.prog w K mg base "_law_next" 2 ["deck", "many"] (spNext K) := h__law_next.imp fun _ _ _ _ q => SpF.abs next_abs q
  have F8 := fun_mk (st := s__law_bits) l8 c8 k8
  have b8 := F8.binds (ps := ["deck"]) fun _ _ _ _ _ _ us hl => match us, hl with | [_], _ => rfl
  have h__law_bits : Has l.prog w K mg base "_law_bits" 3 ["deck"] (sp__law_bits K) := ⟨⟨_, _, PySem.W.mg_of X G a8, k8, b8, ok__law_bits F8 B  EX  h__law_next⟩⟩
  have F9 := fun_mk (st := s__law_face) l9 c9 k9
  have b9 := F9.binds (ps := ["deck", "bits"]) fun _ _ _ _ _ _ us hl => match us, hl with | [_, _], _ => rfl
  have h__law_face : Has l.prog w K mg base "_law_face" 3 ["deck", "bits"] (sp__law_face K) := ⟨⟨_, _, PySem.W.mg_of X G a9, k9, b9, ok__law_face F9 B  EX  h__law_next⟩⟩
  have F10 := fun_mk (st := s__law_all) l10 c10 k10
  have b10 := F10.binds (ps := ["bits"]) fun _ _ _ _ _ _ us hl => match us, hl with | [_], _ => rfl
  have h__law_all : Has l.prog w K mg base "_law_all" 1 ["bits"] (sp__law_all K) := ⟨⟨_, _, PySem.W.mg_of X G a10, k10, b10, ok__law_all F10 B  EX  ⟩⟩
  have F11 := fun_mk (st := s__law_lies) l11 c11 k11
  have b11 := F11.binds (ps := ["face", "corner"]) fun _ _ _ _ _ _ us hl => match us, hl with | [_, _], _ => rfl
  have h__law_lies : Has l.prog w K mg base "_law_lies" 1 ["face", "corner"] (sp__law_lies K) := ⟨⟨_, _, PySem.W.mg_of X G a11, k11, b11, ok__law_lies F11 B  EX  ⟩⟩
  have F12 := fun_mk (st := s__law_set) l12 c12 k12
  have b12 := F12.binds (ps := ["deck", "bits"]) fun _ _ _ _ _ _ us hl => match us, hl with | [_, _], _ => rfl
  have h__law_set : Has l.prog w K mg base "_law_set" 4 ["deck", "bits"] (sp__law_set K) := ⟨⟨_, _, PySem.W.mg_of X G a12, k12, b12, ok__law_set F12 B  EX  h__law_all h__law_next h__law_face h__law_lies⟩⟩
  have F13 := fun_mk (st := s__law_kind) l13 c13 k13
  have b13 := F13.binds (ps := ["caught"]) fun _ _ _ _ _ _ us hl => match us, hl with | [_], _ => rfl
  have h__law_kind : Has l.prog w K mg base "_law_kind" 1 ["caught"] (sp__law_kind K C_NoSet C_NoCorner C_NoParting C_NoAsk) := ⟨⟨_, _, PySem.W.mg_of X G a13, k13, b13, ok__law_kind F13 B  EX  ⟩⟩
  have F14 := fun_mk (st := s__law_sign) l14 c14 k14
  have b14 := F14.binds (ps := ["deck"]) fun _ _ _ _ _ _ us hl => match us, hl with | [_], _ => rfl
  have h__law_sign : Has l.prog w K mg base "_law_sign" 3 ["deck"] (sp__law_sign K) := ⟨⟨_, _, PySem.W.mg_of X G a14, k14, b14, ok__law_sign F14 B  EX  h__law_next⟩⟩
  have F15 := fun_mk (st := s__law_spoilt) l15 c15 k15
  have b15 := F15.binds (ps := ["deck", "text"]) fun _ _ _ _ _ _ us hl => match us, hl with | [_, _], _ => rfl
  have h__law_spoilt : Has l.prog w K mg base "_law_spoilt" 4 ["deck", "text"] (sp__law_spoilt K) := ⟨⟨_, _, PySem.W.mg_of X G a15, k15, b15, ok__law_spoilt F15 B  EX  h__law_next h__law_sign⟩⟩
  have F16 := fun_mk (st := s__law_due) l16 c16 k16
  have b16 := F16.binds (ps := ["text"]) fun _ _ _ _ _ _ us hl => match us, hl with | [_], _ => rfl
  have h__law_due : Has l.prog w K mg base "_law_due" 2 ["text"] (sp__law_due K) := ⟨⟨_, _, PySem.W.mg_of X G a16, k16, b16, ok__law_due F16 B  EX  h__law_all⟩⟩
  have F17 := fun_mk (st := s__law_right) l17 c17 k17
  have b17 := F17.binds (ps := ["text"]) fun _ _ _ _ _ _ us hl => match us, hl with | [_], _ => rfl
  have h__law_right : Has l.prog w K mg base "_law_right" 4 ["text"] (sp__law_right K) := ⟨⟨_, _, PySem.W.mg_of X G a17, k17, b17, ok__law_right F17 B  EX  h__law_due h_read_set h__law_kind⟩⟩
  have F18 := fun_mk (st := s_law) l18 c18 k18
  exact ok_law F18 B  EX  h__law_deck h__law_set h__law_bits h__law_all h__law_spoilt h__law_next h__law_sign h__law_right h__law_kind h_NoSet___init__ h_NoCorner___init__
end G
open PySem PySem.W PyProof.Rows
set_option maxHeartbeats 0 in
theorem PySem.Challenge.cw_facesparted_k04_texts_of_no_sets_holds : PySem.Challenge.rw_facesparted_k04_texts_of_no_sets.Holds := by
  w_on; o_law; k_head; (case hw => w_witness2)
  k_fill
  refine L2.walk_of (l := PySem.Challenge.rw_facesparted_k04_texts_of_no_sets) (n := 63) (k := 5) (x := "script") (CX := fun _ => L2.CX0) (sp := fun w => G.sp_law _) rfl (by decide) rfl ⟨rfl, by decide, by decide⟩ (fun w h Y => PySem.W.kIn_of Y) ?F (fun _ _ a ns hl _ hS => Sm.sp_law_of G.law_true hl hS) (fun _ _ _ _ _ h => h)
  case F =>
    intro w mg fa h KX G hmg
    refine' _root_.G.all_mk KX G hmg ?aC_NoSet ?aC_NoCorner ?aC_NoParting ?aC_NoAsk ?aC_FaceError ?hg_NoSet ?hk_NoSet ?hs_NoSet ?hd_NoSet ?ha_NoSet ?hm_NoSet ?sf_NoSet ?ty_NoSet ?kc_NoSet ?kt_NoSet_NoSet ?kt_NoSet_NoCorner ?kt_NoSet_NoParting ?kt_NoSet_NoAsk ?kt_NoSet_FaceError ?kv_NoSet ?hg_NoCorner ?hk_NoCorner ?hs_NoCorner ?hd_NoCorner ?ha_NoCorner ?hm_NoCorner ?sf_NoCorner ?ty_NoCorner ?kc_NoCorner ?kt_NoCorner_NoSet ?kt_NoCorner_NoCorner ?kt_NoCorner_NoParting ?kt_NoCorner_NoAsk ?kt_NoCorner_FaceError ?kv_NoCorner ?hg_NoParting ?hk_NoParting ?hs_NoParting ?hd_NoParting ?ha_NoParting ?hm_NoParting ?sf_NoParting ?ty_NoParting ?kc_NoParting ?kt_NoParting_NoSet ?kt_NoParting_NoCorner ?kt_NoParting_NoParting ?kt_NoParting_NoAsk ?kt_NoParting_FaceError ?kv_NoParting ?hg_NoAsk ?hk_NoAsk ?hs_NoAsk ?hd_NoAsk ?ha_NoAsk ?hm_NoAsk ?sf_NoAsk ?ty_NoAsk ?kc_NoAsk ?kt_NoAsk_NoSet ?kt_NoAsk_NoCorner ?kt_NoAsk_NoParting ?kt_NoAsk_NoAsk ?kt_NoAsk_FaceError ?kv_NoAsk ?hn_ ?ht_ ?bF_ ?dF_ ?tF_ ?nf_NoSet ?sa_NoSet ?xL_NoSet ?nf_NoCorner ?sa_NoCorner ?xL_NoCorner ?bg_ ?br_ ?bf_ ?xe_NoParting ?st_NoParting ?xe_NoAsk ?st_NoAsk  ?a1 ?i1 ?l1 ?c1 ?k1 ?a2 ?i2 ?l2 ?c2 ?k2 ?a3 ?l3 ?c3 ?k3 ?a4 ?l4 ?c4 ?k4 ?a5 ?l5 ?c5 ?k5 ?a6 ?l6 ?c6 ?k6 ?a7 ?l7 ?c7 ?k7 ?a8 ?l8 ?c8 ?k8 ?a9 ?l9 ?c9 ?k9 ?a10 ?l10 ?c10 ?k10 ?a11 ?l11 ?c11 ?k11 ?a12 ?l12 ?c12 ?k12 ?a13 ?l13 ?c13 ?k13 ?a14 ?l14 ?c14 ?k14 ?a15 ?l15 ?c15 ?k15 ?a16 ?l16 ?c16 ?k16 ?a17 ?l17 ?c17 ?k17 ?a18 ?l18 ?c18 ?k18 ?q_MOST_BITS ?z_ValueError ?z_bool ?z_enumerate ?z_int ?z_isinstance ?z_len ?z_max ?z_range ?z_str ?z_sum ?z_tuple ?z_zip
    (case aC_NoSet => k_is); (case aC_NoCorner => k_is); (case aC_NoParting => k_is); (case aC_NoAsk => k_is); (case aC_FaceError => k_is); (case hg_NoSet => k_is); (case hk_NoSet => k_is); (case hs_NoSet => k_is); (case hd_NoSet => k_is); (case ha_NoSet => k_is); (case hm_NoSet => k_is); (case sf_NoSet => k_is); (case ty_NoSet => k_is); (case kc_NoSet => k_is); (case kt_NoSet_NoSet => (first | kit_is | k_is | rfl)); (case kt_NoSet_NoCorner => (first | kit_is | k_is | rfl)); (case kt_NoSet_NoParting => (first | kit_is | k_is | rfl)); (case kt_NoSet_NoAsk => (first | kit_is | k_is | rfl)); (case kt_NoSet_FaceError => (first | kit_is | k_is | rfl)); (case kv_NoSet => (first | kit_is | k_is | rfl)); (case hg_NoCorner => k_is); (case hk_NoCorner => k_is); (case hs_NoCorner => k_is); (case hd_NoCorner => k_is); (case ha_NoCorner => k_is); (case hm_NoCorner => k_is); (case sf_NoCorner => k_is); (case ty_NoCorner => k_is); (case kc_NoCorner => k_is); (case kt_NoCorner_NoSet => (first | kit_is | k_is | rfl)); (case kt_NoCorner_NoCorner => (first | kit_is | k_is | rfl)); (case kt_NoCorner_NoParting => (first | kit_is | k_is | rfl)); (case kt_NoCorner_NoAsk => (first | kit_is | k_is | rfl)); (case kt_NoCorner_FaceError => (first | kit_is | k_is | rfl)); (case kv_NoCorner => (first | kit_is | k_is | rfl)); (case hg_NoParting => k_is); (case hk_NoParting => k_is); (case hs_NoParting => k_is); (case hd_NoParting => k_is); (case ha_NoParting => k_is); (case hm_NoParting => k_is); (case sf_NoParting => k_is); (case ty_NoParting => k_is); (case kc_NoParting => k_is); (case kt_NoParting_NoSet => (first | kit_is | k_is | rfl)); (case kt_NoParting_NoCorner => (first | kit_is | k_is | rfl)); (case kt_NoParting_NoParting => (first | kit_is | k_is | rfl)); (case kt_NoParting_NoAsk => (first | kit_is | k_is | rfl)); (case kt_NoParting_FaceError => (first | kit_is | k_is | rfl)); (case kv_NoParting => (first | kit_is | k_is | rfl)); (case hg_NoAsk => k_is); (case hk_NoAsk => k_is); (case hs_NoAsk => k_is); (case hd_NoAsk => k_is); (case ha_NoAsk => k_is); (case hm_NoAsk => k_is); (case sf_NoAsk => k_is); (case ty_NoAsk => k_is); (case kc_NoAsk => k_is); (case kt_NoAsk_NoSet => (first | kit_is | k_is | rfl)); (case kt_NoAsk_NoCorner => (first | kit_is | k_is | rfl)); (case kt_NoAsk_NoParting => (first | kit_is | k_is | rfl)); (case kt_NoAsk_NoAsk => (first | kit_is | k_is | rfl)); (case kt_NoAsk_FaceError => (first | kit_is | k_is | rfl)); (case kv_NoAsk => (first | kit_is | k_is | rfl)); (case hn_ => k_is); (case ht_ => k_is); (case bF_ => k_is); (case dF_ => k_is); (case tF_ => k_is); (case nf_NoSet => k_is); (case sa_NoSet => k_is); (case xL_NoSet => k_is); (case nf_NoCorner => k_is); (case sa_NoCorner => k_is); (case xL_NoCorner => k_is); (case bg_ => k_is); (case br_ => k_is); (case bf_ => k_is); (case xe_NoParting => k_exc); (case st_NoParting => k_is); (case xe_NoAsk => k_exc); (case st_NoAsk => k_is); (case a1 => k_is); (case i1 => k_is); (case l1 => k_is); (case c1 => k_is); (case k1 => k_is); (case a2 => k_is); (case i2 => k_is); (case l2 => k_is); (case c2 => k_is); (case k2 => k_is); (case a3 => k_is); (case l3 => k_is); (case c3 => k_is); (case k3 => k_is); (case a4 => k_is); (case l4 => k_is); (case c4 => k_is); (case k4 => k_is); (case a5 => k_is); (case l5 => k_is); (case c5 => k_is); (case k5 => k_is); (case a6 => k_is); (case l6 => k_is); (case c6 => k_is); (case k6 => k_is); (case a7 => k_is); (case l7 => k_is); (case c7 => k_is); (case k7 => k_is); (case a8 => k_is); (case l8 => k_is); (case c8 => k_is); (case k8 => k_is); (case a9 => k_is); (case l9 => k_is); (case c9 => k_is); (case k9 => k_is); (case a10 => k_is); (case l10 => k_is); (case c10 => k_is); (case k10 => k_is); (case a11 => k_is); (case l11 => k_is); (case c11 => k_is); (case k11 => k_is); (case a12 => k_is); (case l12 => k_is); (case c12 => k_is); (case k12 => k_is); (case a13 => k_is); (case l13 => k_is); (case c13 => k_is); (case k13 => k_is); (case a14 => k_is); (case l14 => k_is); (case c14 => k_is); (case k14 => k_is); (case a15 => k_is); (case l15 => k_is); (case c15 => k_is); (case k15 => k_is); (case a16 => k_is); (case l16 => k_is); (case c16 => k_is); (case k16 => k_is); (case a17 => k_is); (case l17 => k_is); (case c17 => k_is); (case k17 => k_is); (case a18 => k_is); (case l18 => k_is); (case c18 => k_is); (case k18 => k_is); (case q_MOST_BITS => k_is); (case z_ValueError => k_is); (case z_bool => k_is); (case z_enumerate => k_is); (case z_int => k_is); (case z_isinstance => k_is); (case z_len => k_is); (case z_max => k_is); (case z_range => k_is); (case z_str => k_is); (case z_sum => k_is); (case z_tuple => k_is); (case z_zip => k_is)
