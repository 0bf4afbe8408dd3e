import PyProof.Rows.All
import Wide.All
import OpenK.AllK
import Wide.FinOn
import HandS.ForMost
import KE.GoesNew
import HandS.IsInst
import HandS.Conv
import PyProof.StrOps2
import HandS.TupAny
import KE.KRevSl
import KE.SortData
import KE.DataCmp
import PyProof.Rows.StrRev
import KE.DatumOrd
import PySem.Challenge.RW_facesparted_k06_partings_looked_at
import KE.BitLaws
set_option Elab.async false
set_option linter.all false
set_option maxRecDepth 100000
set_option maxHeartbeats 4000000
/-! A typed layer over HandS: frozen data, owned lists, resources; readings by unions. -/
namespace Sm
open PySem PySem.Spec PyProof.Rows L2

/-! ### heaps: what is frozen (F), owned here (h), hidden (HI) -/
abbrev HL := List (Addr × HO)
structure Ok (F : Hp) (h : HL) (HI H : Hp) : Prop where
  fz : Same F H
  own : ∀ p ∈ h, H p.1 = some p.2 ∧ F p.1 = none ∧ HI p.1 = none
  nd : (h.map (·.1)).Nodup
  hid : ∀ b o, HI b = some o → H b = some o ∧ F b = none
section
variable {F HI H : Hp} {h h' h1 h2 h3 : HL} {p : Addr} {o o' : HO}
theorem same_upd {H : Hp} {p : Addr} {o : HO} (h : H p = none) : Same H (upd H p o) := fun b x e => by
  rw [upd_ne (ne_of_none e h)]; exact e
theorem upd_free {H : Hp} {a b : Addr} {o : HO} (h : upd H a o b = none) : H b = none ∧ b ≠ a := by
  by_cases e : b = a
  · subst e; rw [upd_same] at h; cases h
  · rw [upd_ne e] at h; exact ⟨h, e⟩
theorem Ok.free (k : Ok F h HI H) (n : H p = none) : F p = none ∧ HI p = none ∧ p ∉ h.map (·.1) := by
  refine ⟨k.fz.free n, ?_, fun hm => ?_⟩
  · cases e : HI p with
    | none => rfl
    | some o => rw [(k.hid p o e).1] at n; cases n
  · obtain ⟨q, hq, e⟩ := List.mem_map.mp hm
    subst e
    rw [(k.own q hq).1] at n; cases n
theorem Ok.newF (k : Ok F h HI H) (n : H p = none) : Ok (upd F p o) h HI (upd H p o) := by
  obtain ⟨nF, nI, nh⟩ := k.free n
  refine ⟨fun b x e => ?_, fun q hq => ?_, k.nd, fun b x e => ?_⟩
  · by_cases hb : b = p
    · subst hb; rw [upd_same] at e ⊢; exact e
    · rw [upd_ne hb] at e ⊢; exact k.fz b x e
  · obtain ⟨a1, a2, a3⟩ := k.own q hq
    have hb : q.1 ≠ p := fun e => nh (List.mem_map.mpr ⟨q, hq, e⟩)
    exact ⟨by rw [upd_ne hb]; exact a1, by rw [upd_ne hb]; exact a2, a3⟩
  · obtain ⟨a1, a2⟩ := k.hid b x e
    have hb : b ≠ p := fun q => by subst q; rw [nI] at e; cases e
    exact ⟨by rw [upd_ne hb]; exact a1, by rw [upd_ne hb]; exact a2⟩
theorem Ok.newO (k : Ok F h HI H) (n : H p = none) : Ok F ((p, o) :: h) HI (upd H p o) := by
  obtain ⟨nF, nI, nh⟩ := k.free n
  refine ⟨k.fz.trans (same_upd n), fun q hq => ?_, ?_, fun b x e => ?_⟩
  · rcases List.mem_cons.mp hq with e | hq
    · subst e; exact ⟨upd_same, nF, nI⟩
    · obtain ⟨a1, a2, a3⟩ := k.own q hq
      have hb : q.1 ≠ p := fun e => nh (List.mem_map.mpr ⟨q, hq, e⟩)
      exact ⟨by rw [upd_ne hb]; exact a1, a2, a3⟩
  · rw [List.map_cons, List.nodup_cons]; exact ⟨nh, k.nd⟩
  · obtain ⟨a1, a2⟩ := k.hid b x e
    have hb : b ≠ p := fun q => by subst q; rw [nI] at e; cases e
    exact ⟨by rw [upd_ne hb]; exact a1, a2⟩
theorem Ok.perm (k : Ok F h HI H) (e : h.Perm h') : Ok F h' HI H :=
  ⟨k.fz, fun p hp => k.own p (e.mem_iff.mpr hp), (e.map _).nodup_iff.mp k.nd, k.hid⟩
theorem Ok.sub (k : Ok F h HI H) (e : h'.Sublist h) : Ok F h' HI H :=
  ⟨k.fz, fun p hp => k.own p (e.subset hp), (e.map _).nodup k.nd, k.hid⟩
theorem Ok.freeze (k : Ok F ((p, o) :: h) HI H) : Ok (upd F p o) h HI H := by
  have k1 := k.own (p, o) List.mem_cons_self
  have nd := k.nd
  rw [List.map_cons, List.nodup_cons] at nd
  refine ⟨fun b x e => ?_, fun q hq => ?_, nd.2, fun b x e => ?_⟩
  · by_cases hb : b = p
    · subst hb; rw [upd_same] at e; cases e; exact k1.1
    · rw [upd_ne hb] at e; exact k.fz b x e
  · obtain ⟨a1, a2, a3⟩ := k.own q (List.mem_cons_of_mem _ hq)
    have hb : q.1 ≠ p := fun e => nd.1 (List.mem_map.mpr ⟨q, hq, e⟩)
    exact ⟨a1, by rw [upd_ne hb]; exact a2, a3⟩
  · obtain ⟨a1, a2⟩ := k.hid b x e
    have hb : b ≠ p := fun q => by subst q; rw [k1.2.2] at e; cases e
    exact ⟨a1, by rw [upd_ne hb]; exact a2⟩
theorem Ok.set (k : Ok F ((p, o) :: h) HI H) : Ok F ((p, o') :: h) HI (upd H p o') := by
  have k1 := k.own (p, o) List.mem_cons_self
  have nd := k.nd
  rw [List.map_cons, List.nodup_cons] at nd
  refine ⟨fun b x e => ?_, fun q hq => ?_, by rw [List.map_cons, List.nodup_cons]; exact nd, fun b x e => ?_⟩
  · have hb : b ≠ p := fun q => by subst q; rw [k1.2.1] at e; cases e
    rw [upd_ne hb]; exact k.fz b x e
  · rcases List.mem_cons.mp hq with e | hq
    · subst e; exact ⟨upd_same, k1.2.1, k1.2.2⟩
    · obtain ⟨a1, a2, a3⟩ := k.own q (List.mem_cons_of_mem _ hq)
      have hb : q.1 ≠ p := fun e => nd.1 (List.mem_map.mpr ⟨q, hq, e⟩)
      exact ⟨by rw [upd_ne hb]; exact a1, a2, a3⟩
  · obtain ⟨a1, a2⟩ := k.hid b x e
    have hb : b ≠ p := fun q => by subst q; rw [k1.2.2] at e; cases e
    exact ⟨by rw [upd_ne hb]; exact a1, a2⟩
/-- hide l -/
def hide (HI : Hp) (l : HL) : Hp := fun b => match l.lookup b with | some o => some o | none => HI b
theorem lookup_of_mem {l : HL} {p : Addr × HO} (nd : (l.map (·.1)).Nodup) (hp : p ∈ l) : l.lookup p.1 = some p.2 := by
  induction l with
  | nil => cases hp
  | cons q r ih =>
    rw [List.map_cons, List.nodup_cons] at nd
    rcases List.mem_cons.mp hp with e | hp2
    · subst e; obtain ⟨a, b⟩ := p; simp [List.lookup]
    · have hne : p.1 ≠ q.1 := fun e => nd.1 (List.mem_map.mpr ⟨p, hp2, e⟩)
      obtain ⟨a, b⟩ := q
      rw [List.lookup_cons]
      have : (p.1 == a) = false := beq_eq_false_iff_ne.mpr hne
      rw [this]; exact ih nd.2 hp2
theorem mem_of_lookup {l : HL} {b : Addr} {o : HO} (h : l.lookup b = some o) : (b, o) ∈ l := by
  induction l with
  | nil => cases h
  | cons q r ih =>
    obtain ⟨a, c⟩ := q
    rw [List.lookup_cons] at h
    by_cases e : b = a
    · subst e; simp at h; subst h; exact List.mem_cons_self
    · have : (b == a) = false := beq_eq_false_iff_ne.mpr e
      rw [this] at h; exact List.mem_cons_of_mem _ (ih h)
theorem Ok.hide (k : Ok F (h1 ++ h2) HI H) : Ok F h1 (hide HI h2) H := by
  have nd := k.nd
  rw [List.map_append] at nd
  refine ⟨k.fz, fun p hp => ?_, (List.nodup_append.mp nd).1, fun b x e => ?_⟩
  · obtain ⟨a1, a2, a3⟩ := k.own p (List.mem_append_left _ hp)
    refine ⟨a1, a2, ?_⟩
    unfold Sm.hide
    cases e : h2.lookup p.1 with
    | none => exact a3
    | some o =>
      exact absurd rfl ((List.nodup_append.mp nd).2.2 p.1 (List.mem_map.mpr ⟨p, hp, rfl⟩) p.1 (List.mem_map.mpr ⟨_, mem_of_lookup e, rfl⟩))
  · unfold Sm.hide at e
    cases q : h2.lookup b with
    | none => rw [q] at e; exact k.hid b x e
    | some o =>
      rw [q] at e; cases e
      obtain ⟨a1, a2, _⟩ := k.own _ (List.mem_append_right _ (mem_of_lookup q))
      exact ⟨a1, a2⟩
theorem Ok.unhide {F' H' : Hp} (k : Ok F (h1 ++ h2) HI H) (k' : Ok F' h' (Sm.hide HI h2) H') : Ok F' (h' ++ h2) HI H' := by
  have nd := k.nd
  rw [List.map_append] at nd
  have nd2 := (List.nodup_append.mp nd).2.1
  have hd : ∀ p ∈ h2, Sm.hide HI h2 p.1 = some p.2 := fun p hp => by
    unfold Sm.hide; rw [lookup_of_mem nd2 hp]
  have hI : ∀ b o, HI b = some o → Sm.hide HI h2 b = some o := fun b o e => by
    unfold Sm.hide
    cases q : h2.lookup b with
    | none => exact e
    | some u => rw [(k.own _ (List.mem_append_right _ (mem_of_lookup q))).2.2] at e; cases e
  refine ⟨k'.fz, fun p hp => ?_, ?_, fun b o e => k'.hid b o (hI b o e)⟩
  · rcases List.mem_append.mp hp with hp | hp
    · obtain ⟨a1, a2, a3⟩ := k'.own p hp
      refine ⟨a1, a2, ?_⟩
      cases e : HI p.1 with
      | none => rfl
      | some o => rw [hI _ _ e] at a3; cases a3
    · obtain ⟨a1, a2⟩ := k'.hid _ _ (hd p hp)
      exact ⟨a1, a2, (k.own p (List.mem_append_right _ hp)).2.2⟩
  · rw [List.map_append, List.nodup_append]
    refine ⟨k'.nd, nd2, fun a ha b hb e => ?_⟩
    subst e
    obtain ⟨p, hp, e1⟩ := List.mem_map.mp ha
    obtain ⟨q, hq, e2⟩ := List.mem_map.mp hb
    have := (k'.own p hp).2.2
    rw [e1, ← e2, hd q hq] at this; cases this
end

/-! ### assertions on values, slots, resources -/
structure VA where
  p : V → Hp → HL → Prop
  mono : ∀ {v F F' h}, Same F F' → p v F h → p v F' h
structure RP (α : Type) where
  r : α → V → Hp → Prop
  mono : ∀ {x v F F'}, Same F F' → r x v F → r x v F'
def fz {α : Type} (r : RP α) (x : α) : VA := ⟨fun v F h => h = [] ∧ r.r x v F, fun s q => ⟨q.1, r.mono s q.2⟩⟩
structure Res where
  p : Hp → HL → Prop
  mono : ∀ {F F' h}, Same F F' → p F h → p F' h
def emp : Res := ⟨fun _ h => h = [], fun _ q => q⟩
abbrev Asrt := List (Option VA)
def Sat : Asrt → L2.St → Hp → HL → Prop
  | [], [], _, h => h = []
  | none :: Γ, _ :: σ, F, h => Sat Γ σ F h
  | some A :: Γ, s :: σ, F, h => ∃ v h1 h2, s = some v ∧ h = h1 ++ h2 ∧ A.p v F h1 ∧ Sat Γ σ F h2
  | _, _, _, _ => False
theorem Sat.mono {F F' : Hp} (e : Same F F') : ∀ {Γ : Asrt} {σ : L2.St} {h : HL}, Sat Γ σ F h → Sat Γ σ F' h
  | [], [], _, q => q
  | none :: Γ, _ :: σ, _, q => Sat.mono (Γ := Γ) (σ := σ) e q
  | some A :: Γ, s :: σ, _, ⟨v, h1, h2, a, b, c, d⟩ => ⟨v, h1, h2, a, b, A.mono e c, Sat.mono e d⟩
theorem Sat.length {F : Hp} : ∀ {Γ : Asrt} {σ : L2.St} {h : HL}, Sat Γ σ F h → Γ.length = σ.length
  | [], [], _, _ => rfl
  | none :: Γ, _ :: σ, _, q => congrArg (· + 1) (Sat.length (Γ := Γ) (σ := σ) q)
  | some A :: Γ, s :: σ, _, ⟨_, _, _, _, _, _, d⟩ => congrArg (· + 1) (Sat.length d)
/-- one slot, and what stands beside it -/
theorem Sat.at {F : Hp} : ∀ {Γ : Asrt} {σ : L2.St} {h : HL} {i : Nat} {A : VA}, Sat Γ σ F h → Γ[i]? = some (some A) →
    ∃ v h1 h2, σ[i]? = some (some v) ∧ h.Perm (h1 ++ h2) ∧ A.p v F h1 ∧
      ∀ (F' : Hp) (A' : VA) (v' : V) (h1' : HL), Same F F' → A'.p v' F' h1' → ∃ h', h'.Perm (h1' ++ h2) ∧ Sat (Γ.set i (some A')) (σ.set i (some v')) F' h'
  | none :: Γ, s :: σ, h, 0, A, q, e => by cases e
  | some B :: Γ, s :: σ, h, 0, A, ⟨v, h1, h2, a, b, c, d⟩, e => by
    have e' : B = A := by simpa using e
    subst e'
    refine ⟨v, h1, h2, by rw [a]; rfl, by rw [b], c, fun F' A' v' h1' s q => ⟨h1' ++ h2, .refl _, v', h1', h2, rfl, rfl, q, d.mono s⟩⟩
  | none :: Γ, s :: σ, h, i + 1, A, q, e => by
    obtain ⟨v, h1, h2, a, b, c, d⟩ := Sat.at (Γ := Γ) (σ := σ) (h := h) (i := i) q (by simpa using e)
    refine ⟨v, h1, h2, by simpa using a, b, c, fun F' A' v' h1' s q => ?_⟩
    obtain ⟨h', p, r⟩ := d F' A' v' h1' s q
    exact ⟨h', p, r⟩
  | some B :: Γ, s :: σ, h, i + 1, A, ⟨w, g1, g2, a0, b0, c0, d0⟩, e => by
    obtain ⟨v, h1, h2, a, b, c, d⟩ := Sat.at (Γ := Γ) (σ := σ) (h := g2) (i := i) d0 (by simpa using e)
    refine ⟨v, h1, g1 ++ h2, by simpa using a, ?_, c, fun F' A' v' h1' s q => ?_⟩
    · rw [b0]
      exact (List.Perm.append_left g1 b).trans (by
        rw [← List.append_assoc, ← List.append_assoc]
        exact (List.perm_append_comm).append_right _)
    · obtain ⟨h', p, r⟩ := d F' A' v' h1' s q
      refine ⟨g1 ++ h', ?_, w, g1, h', a0, rfl, B.mono s c0, r⟩
      exact (List.Perm.append_left g1 p).trans (by
        rw [← List.append_assoc, ← List.append_assoc]
        exact (List.perm_append_comm).append_right _)
  | [], [], _, _, _, _, e => by cases e
/-- a slot is stored: what it owned is dropped -/
theorem Sat.put {F : Hp} : ∀ {Γ : Asrt} {σ : L2.St} {h hv : HL} {i : Nat} {A : VA} {v : V}, Sat Γ σ F h → i < Γ.length → A.p v F hv →
    ∃ h' h0, h'.Sublist h ∧ h0.Perm (hv ++ h') ∧ Sat (Γ.set i (some A)) (σ.set i (some v)) F h0
  | none :: Γ, s :: σ, h, hv, 0, A, v, q, l, a => ⟨h, hv ++ h, .refl _, .refl _, v, hv, h, rfl, rfl, a, q⟩
  | some B :: Γ, s :: σ, h, hv, 0, A, v, ⟨w, g1, g2, a0, b0, c0, d0⟩, l, a => ⟨g2, hv ++ g2, by rw [b0]; exact List.sublist_append_right _ _, .refl _, v, hv, g2, rfl, rfl, a, d0⟩
  | none :: Γ, s :: σ, h, hv, i + 1, A, v, q, l, a => by
    obtain ⟨h', h0, e1, e2, e3⟩ := Sat.put (Γ := Γ) (σ := σ) (h := h) (i := i) q (by simpa using l) a
    exact ⟨h', h0, e1, e2, e3⟩
  | some B :: Γ, s :: σ, h, hv, i + 1, A, v, ⟨w, g1, g2, a0, b0, c0, d0⟩, l, a => by
    obtain ⟨h', h0, e1, e2, e3⟩ := Sat.put (Γ := Γ) (σ := σ) (h := g2) (i := i) d0 (by simpa using l) a
    refine ⟨g1 ++ h', g1 ++ h0, by rw [b0]; exact List.Sublist.append_left e1 _, ?_, w, g1, h0, a0, rfl, c0, e3⟩
    exact (List.Perm.append_left g1 e2).trans (by
      rw [← List.append_assoc, ← List.append_assoc]
      exact (List.perm_append_comm).append_right _)
  | [], [], _, _, _, _, _, _, l, _ => absurd l (Nat.not_lt_zero _)
/-- weaker slots -/
inductive Le : Asrt → Asrt → Prop
  | nil : Le [] []
  | keep {A Γ Δ} : Le Γ Δ → Le (A :: Γ) (A :: Δ)
  | drop {A Γ Δ} : Le Γ Δ → Le (A :: Γ) (none :: Δ)
theorem Le.sat {F : Hp} {Γ Δ : Asrt} (l : Le Γ Δ) : ∀ {σ : L2.St} {h : HL}, Sat Γ σ F h → ∃ h', h'.Sublist h ∧ Sat Δ σ F h' := by
  induction l with
  | nil => intro σ h q; exact ⟨h, .refl _, q⟩
  | @keep A Γ Δ l ih =>
    intro σ h q
    cases σ with
    | nil => cases A <;> exact q.elim
    | cons s σ =>
      cases A with
      | none => exact ih (σ := σ) q
      | some A =>
        obtain ⟨v, h1, h2, a, b, c, d⟩ := q
        obtain ⟨h', e, r⟩ := ih d
        exact ⟨h1 ++ h', by rw [b]; exact List.Sublist.append_left e _, v, h1, h', a, rfl, c, r⟩
  | @drop A Γ Δ l ih =>
    intro σ h q
    cases σ with
    | nil => cases A <;> exact q.elim
    | cons s σ =>
      cases A with
      | none => exact ih (σ := σ) q
      | some A =>
        obtain ⟨v, h1, h2, a, b, c, d⟩ := q
        obtain ⟨h', e, r⟩ := ih d
        exact ⟨h', by rw [b]; exact e.trans (List.sublist_append_right _ _), r⟩
/-- the slots at vs forgotten -/
def wipeA (Γ : Asrt) : List Nat → Asrt
  | [] => Γ
  | v :: vs => (wipeA Γ vs).set v none
theorem Sat.unset {F : Hp} : ∀ {Γ : Asrt} {σ : L2.St} {h : HL} {s : Option V} (i : Nat), Sat Γ σ F h → ∃ h', h'.Sublist h ∧ Sat (Γ.set i none) (σ.set i s) F h'
  | none :: Γ, s :: σ, h, t, 0, q => ⟨h, .refl _, q⟩
  | some B :: Γ, s :: σ, h, t, 0, ⟨w, g1, g2, a0, b0, c0, d0⟩ => ⟨g2, by rw [b0]; exact List.sublist_append_right _ _, d0⟩
  | none :: Γ, s :: σ, h, t, i + 1, q => by
    obtain ⟨h', e1, e2⟩ := Sat.unset (Γ := Γ) (σ := σ) (h := h) (s := t) i q
    exact ⟨h', e1, e2⟩
  | some B :: Γ, s :: σ, h, t, i + 1, ⟨w, g1, g2, a0, b0, c0, d0⟩ => by
    obtain ⟨h', e1, e2⟩ := Sat.unset (Γ := Γ) (σ := σ) (h := g2) (s := t) i d0
    exact ⟨g1 ++ h', by rw [b0]; exact List.Sublist.append_left e1 _, w, g1, h', a0, rfl, c0, e2⟩
  | [], [], h, _, _, q => ⟨h, .refl _, q⟩
theorem Sat.wipe {F : Hp} {Γ : Asrt} {σ : L2.St} {h : HL} (q : Sat Γ σ F h) : ∀ vs : List Nat, ∃ h', h'.Sublist h ∧ Sat (wipeA Γ vs) (wipe σ vs) F h'
  | [] => ⟨h, .refl _, q⟩
  | v :: vs => by
    obtain ⟨h1, e1, q1⟩ := Sat.wipe q vs
    obtain ⟨h2, e2, q2⟩ := Sat.unset (s := none) v q1
    exact ⟨h2, e2.trans e1, q2⟩
end Sm

set_option Elab.async false
set_option linter.all false
set_option maxRecDepth 100000
set_option maxHeartbeats 4000000
namespace Sm
open PySem PySem.Spec PyProof.Rows L2

/-! ### contexts in families: a def's body, the blocks of its comprehensions -/
structure Fm (P : Program) (w : World) (K : PySem.W.Frag) (mg : Str → Option Value) (base : Heap) (N : List Str) (sc : Scope) (fn : Str → Bool) (k : Nat) where
  ι : Type
  X : ι → Cx
  prog : ∀ i, (X i).prog = P
  wd : ∀ i, (X i).w = w
  kf : ∀ i, (X i).K = K
  mgl : ∀ i, (X i).mg = mg
  bas : ∀ i, (X i).base = base
  nn : ∀ i, (X i).N = N
  scp : ∀ i, (X i).env.scope = sc
  calm : ∀ i, (X i).calm = true
  room : ∀ i, Room k (X i).A
  pass : ∀ i, PassesOwn (model (X i).prog (X i).w) (X i).A (X i).env (X i).xe
  fnl : ∀ i x, fn x = true → (X i).fn x = true
  nd : N.Nodup
section
variable {P : Program} {w : World} {K : PySem.W.Frag} {mg : Str → Option Value} {base : Heap} {N : List Str} {sc : Scope} {fn : Str → Bool} {k : Nat}

def rdE (M : Fm P w K mg base N sc fn k) (e : Expr) : TE := fun σ H Q => ∃ t, (∀ i, PE (M.X i) e t) ∧ t σ H Q
def rdT (M : Fm P w K mg base N sc fn k) (e : Expr) : TT := fun σ H Q => ∃ t, (∀ i, PT (M.X i) e t) ∧ t σ H Q
def rdW (M : Fm P w K mg base N sc fn k) (e : Expr) : TT := fun σ H Q => ∃ t, (∀ i, PW (M.X i) e t) ∧ t σ H Q
def rdA (M : Fm P w K mg base N sc fn k) (es : List Expr) : TA := fun σ H Q => ∃ t, (∀ i, PA (M.X i) es t) ∧ t σ H Q
def rdS (M : Fm P w K mg base N sc fn k) (st : Stmt) : TS := fun D σ H => ∃ t, (∀ i, PS (M.X i) st t) ∧ t D σ H
def rdSs (M : Fm P w K mg base N sc fn k) (st : List Stmt) : TS := fun D σ H => ∃ t, (∀ i, PSs (M.X i) st t) ∧ t D σ H
def rdI (M : Fm P w K mg base N sc fn k) (tg e : Expr) : TI := fun σ H R => ∃ t, (∀ i, PI (M.X i) tg e t) ∧ t σ H R
def rdG (M : Fm P w K mg base N sc fn k) (tg : Expr) : TG := fun v σ H Q => ∃ t, (∀ i, PG (M.X i) tg t) ∧ t v σ H Q
def rdGs (M : Fm P w K mg base N sc fn k) (tg : List Expr) : TGs := fun v σ H Q => ∃ t, (∀ i, PGs (M.X i) tg t) ∧ t v σ H Q
def rdO (M : Fm P w K mg base N sc fn k) (e : Option Expr) : TO := fun σ H Q => ∃ t, (∀ i, PO (M.X i) e t) ∧ t σ H Q
def rdTs (M : Fm P w K mg base N sc fn k) (es : List Expr) : TT := fun σ H Q => ∃ t, (∀ i, PTs (M.X i) es t) ∧ t σ H Q
variable {M : Fm P w K mg base N sc fn k}
theorem rdE_ok (i) {e} : PE (M.X i) e (rdE M e) := ⟨fun pins s σ H Q I ⟨t, h, q⟩ => (h i).run pins s σ H Q I q⟩
theorem rdT_ok (i) {e} : PT (M.X i) e (rdT M e) := ⟨fun pins s σ H Q I ⟨t, h, q⟩ => (h i).run pins s σ H Q I q⟩
theorem rdW_ok (i) {e} : PW (M.X i) e (rdW M e) := ⟨fun wh pins s σ H Q I ⟨t, h, q⟩ => (h i).run wh pins s σ H Q I q⟩
theorem rdA_ok (i) {e} : PA (M.X i) e (rdA M e) := ⟨fun pos pins s σ H Q I ⟨t, h, q⟩ => (h i).run pos pins s σ H Q I q⟩
theorem rdS_ok (i) {e} : PS (M.X i) e (rdS M e) := ⟨fun pins s σ H D I ⟨t, h, q⟩ => (h i).run pins s σ H D I q⟩
theorem rdSs_ok (i) {e} : PSs (M.X i) e (rdSs M e) := ⟨fun pins s σ H D I ⟨t, h, q⟩ => (h i).run pins s σ H D I q⟩
theorem rdI_ok (i) {tg e} : PI (M.X i) tg e (rdI M tg e) := ⟨fun pins s σ H Q I ⟨t, h, q⟩ => (h i).run pins s σ H Q I q⟩
theorem rdG_ok (i) {e} : PG (M.X i) e (rdG M e) := ⟨fun pins s σ H v u Q I r ⟨t, h, q⟩ => (h i).run pins s σ H v u Q I r q⟩
theorem rdGs_ok (i) {e} : PGs (M.X i) e (rdGs M e) := ⟨fun pins s σ H v u Q I r ⟨t, h, q⟩ => (h i).run pins s σ H v u Q I r q⟩
theorem rdO_ok (i) {e} : PO (M.X i) e (rdO M e) := ⟨fun pins s σ H Q I ⟨t, h, q⟩ => (h i).run pins s σ H Q I q⟩
theorem rdTs_ok (i) {e} : PTs (M.X i) e (rdTs M e) := ⟨fun pins s σ H Q I ⟨t, h, q⟩ => (h i).run pins s σ H Q I q⟩

/-! ### states -/
variable {S : Type}
def Stt (O : S → Res) (HI : Hp) (Γ : Asrt) (s : S) (σ : L2.St) (F H : Hp) : Prop :=
  ∃ h1 h2, Sat Γ σ F h1 ∧ (O s).p F h2 ∧ Ok F (h1 ++ h2) HI H
def SttV (O : S → Res) (HI : Hp) (Γ : Asrt) (s : S) (σ : L2.St) (F H : Hp) (A : VA) (v : V) : Prop :=
  ∃ hv h1 h2, A.p v F hv ∧ Sat Γ σ F h1 ∧ (O s).p F h2 ∧ Ok F (hv ++ (h1 ++ h2)) HI H
section
variable {O : S → Res} {HI F F' H : Hp} {Γ : Asrt} {s : S} {σ : L2.St} {A : VA} {v : V} {p : Addr} {o : HO} {α : Type} {r : RP α} {x : α}
theorem SttV.fz (h : SttV O HI Γ s σ F H (fz r x) v) : r.r x v F ∧ Stt O HI Γ s σ F H := by
  obtain ⟨hv, h1, h2, ⟨e, a⟩, b, c, d⟩ := h
  subst e
  exact ⟨a, h1, h2, b, c, d⟩
theorem Stt.val (h : Stt O HI Γ s σ F H) (a : r.r x v F) : SttV O HI Γ s σ F H (Sm.fz r x) v := by
  obtain ⟨h1, h2, b, c, d⟩ := h
  exact ⟨[], h1, h2, ⟨rfl, a⟩, b, c, d⟩
theorem Stt.ok (h : Stt O HI Γ s σ F H) : Same F H := by obtain ⟨h1, h2, b, c, d⟩ := h; exact d.fz
theorem Stt.free (h : Stt O HI Γ s σ F H) (n : H p = none) : F p = none := by obtain ⟨h1, h2, b, c, d⟩ := h; exact (d.free n).1
theorem Stt.newF (h : Stt O HI Γ s σ F H) (n : H p = none) : Same F (upd F p o) ∧ Stt O HI Γ s σ (upd F p o) (upd H p o) := by
  obtain ⟨h1, h2, b, c, d⟩ := h
  have e : Same F (upd F p o) := same_upd (d.free n).1
  exact ⟨e, h1, h2, b.mono e, (O s).mono e c, d.newF n⟩
theorem Stt.newV (h : Stt O HI Γ s σ F H) (n : H p = none) (a : A.p v F [(p, o)]) : SttV O HI Γ s σ F (upd H p o) A v := by
  obtain ⟨h1, h2, b, c, d⟩ := h
  exact ⟨[(p, o)], h1, h2, a, b, c, d.newO n⟩
theorem SttV.drop (h : SttV O HI Γ s σ F H A v) : Stt O HI Γ s σ F H := by
  obtain ⟨hv, h1, h2, a, b, c, d⟩ := h
  exact ⟨h1, h2, b, c, d.sub (List.sublist_append_right _ _)⟩
/-- a variable's slot -/
theorem Stt.slot {i : Nat} (h : Stt O HI Γ s σ F H) (e : Γ[i]? = some (some (Sm.fz r x))) : ∃ v, σ[i]? = some (some v) ∧ r.r x v F := by
  obtain ⟨h1, h2, b, c, d⟩ := h
  obtain ⟨v, g1, g2, a1, a2, ⟨a3, a4⟩, _⟩ := b.at e
  exact ⟨v, a1, a4⟩
theorem Stt.put {i : Nat} (h : SttV O HI Γ s σ F H A v) (l : i < Γ.length) : Stt O HI (Γ.set i (some A)) s (σ.set i (some v)) F H := by
  obtain ⟨hv, h1, h2, a, b, c, d⟩ := h
  obtain ⟨h', h0, e1, e2, e3⟩ := b.put l a
  refine ⟨h0, h2, e3, c, ?_⟩
  refine (d.sub (h' := hv ++ (h' ++ h2)) (List.Sublist.append_left (List.Sublist.append_right e1 _) _)).perm ?_
  rw [← List.append_assoc]
  exact (e2.symm).append_right _
theorem Stt.le {Δ : Asrt} (h : Stt O HI Γ s σ F H) (l : Le Γ Δ) : Stt O HI Δ s σ F H := by
  obtain ⟨h1, h2, b, c, d⟩ := h
  obtain ⟨h', e, q⟩ := l.sat b
  exact ⟨h', h2, q, c, d.sub (List.Sublist.append_right e _)⟩
theorem Stt.len (h : Stt O HI Γ s σ F H) : Γ.length = σ.length := by obtain ⟨h1, h2, b, c, d⟩ := h; exact b.length
end

/-! ### judgements -/
/-- an expression: from the slots Γ and the resource's state s a value (and what it owns), by the word w -/
def XE (M : Fm P w K mg base N sc fn k) {ρ : Type} (O : S → Res) (Γ : Asrt) (s : S) (e : Expr) (A : ρ → VA) (W : (ρ → S → Prop) → Prop) : Prop :=
  ∀ (HI : Hp) (C : ρ → S → Prop) (Q : VK) (σ : L2.St) (F H : Hp), Stt O HI Γ s σ F H →
    (∀ x s' v F' H', C x s' → Same F F' → SttV O HI Γ s' σ F' H' (A x) v → Q v H') → W C → rdE M e σ H Q
/-- a test -/
def XT (M : Fm P w K mg base N sc fn k) (O : S → Res) (Γ : Asrt) (s : S) (e : Expr) (W : (Bool → S → Prop) → Prop) : Prop :=
  ∀ (HI : Hp) (C : Bool → S → Prop) (Q : Bool → Hp → Prop) (σ : L2.St) (F H : Hp), Stt O HI Γ s σ F H →
    (∀ x s' F' H', C x s' → Same F F' → Stt O HI Γ s' σ F' H' → Q x H') → W C → rdT M e σ H Q
def XW (M : Fm P w K mg base N sc fn k) (O : S → Res) (Γ : Asrt) (s : S) (e : Expr) (W : (Bool → S → Prop) → Prop) : Prop :=
  ∀ (HI : Hp) (C : Bool → S → Prop) (Q : Bool → Hp → Prop) (σ : L2.St) (F H : Hp), Stt O HI Γ s σ F H →
    (∀ x s' F' H', C x s' → Same F F' → Stt O HI Γ s' σ F' H' → Q x H') → W C → rdW M e σ H Q
/-- a comparison by values -/
def XC (M : Fm P w K mg base N sc fn k) (O : S → Res) (Γ : Asrt) (s : S) (op : CmpOp) (a b : Expr) (W : (Bool → S → Prop) → Prop) : Prop :=
  ∀ (HI : Hp) (C : Bool → S → Prop) (Q : VK) (σ : L2.St) (F H : Hp), Stt O HI Γ s σ F H →
    (∀ x s' F' H', C x s' → Same F F' → Stt O HI Γ s' σ F' H' → Q (.bl x) H') → W C → ∃ r, (∀ i, OpR (M.X i) (compareOp op) r) ∧ tOp r (rdE M a) (rdE M b) σ H Q
/-- arguments: all frozen -/
def AllV : List VA → List V → Hp → Prop
  | [], [], _ => True
  | A :: As, v :: vs, F => A.p v F [] ∧ AllV As vs F
  | _, _, _ => False
theorem AllV.mono {F F' : Hp} (e : Same F F') : ∀ {As : List VA} {vs : List V}, AllV As vs F → AllV As vs F'
  | [], [], q => q
  | A :: As, v :: vs, q => ⟨A.mono e q.1, AllV.mono e q.2⟩
def XA (M : Fm P w K mg base N sc fn k) {ρ : Type} (O : S → Res) (Γ : Asrt) (s : S) (es : List Expr) (A : ρ → List VA) (W : (ρ → S → Prop) → Prop) : Prop :=
  ∀ (HI : Hp) (C : ρ → S → Prop) (Q : List V → Hp → Prop) (σ : L2.St) (F H : Hp), Stt O HI Γ s σ F H →
    (∀ x s' vs F' H', C x s' → Same F F' → AllV (A x) vs F' → Stt O HI Γ s' σ F' H' → Q vs H') → W C → rdA M es σ H Q
/-- a walk's items -/
def JOk (J : It) {α : Type} (r : RP α) (xs : List α) (F : Hp) : Prop :=
  ∀ F1, Same F F1 → ∀ (HI : Hp) (h : HL) (H : Hp), Ok F1 h HI H → (∀ i x, xs[i]? = some x → J.go i H ∧ ∀ v H', J.yld i H v H' → ∃ F2, Same F1 F2 ∧ Ok F2 h HI H' ∧ r.r x v F2) ∧ J.stop xs.length H
def XI (M : Fm P w K mg base N sc fn k) {α : Type} (O : S → Res) (Γ : Asrt) (s : S) (tg e : Expr) (r : RP α) (W : (List α → S → Prop) → Prop) : Prop :=
  ∀ (HI : Hp) (C : List α → S → Prop) (R : It → Hp → Prop) (σ : L2.St) (F H : Hp), Stt O HI Γ s σ F H →
    (∀ xs s' J F' H', C xs s' → Same F F' → Stt O HI Γ s' σ F' H' → JOk J r xs F' → R J H') → W C → rdI M tg e σ H R
/-- a target: the slots in L are stored -/
def XG (M : Fm P w K mg base N sc fn k) {α : Type} (tg : Expr) (r : RP α) (g : α → Asrt → Asrt) (L : List Nat) : Prop :=
  ∀ {S : Type} (O : S → Res) (HI : Hp) (Γ : Asrt) (s : S) (σ : L2.St) (F H : Hp) (x : α) (v : V) (Q : L2.St → Hp → Prop), Γ.length = N.length → Stt O HI Γ s σ F H → r.r x v F →
    (∀ σ', σ'.length = σ.length → (∀ i, i ∉ L → σ'[i]? = σ[i]?) → Stt O HI (g x Γ) s σ' F H → Q σ' H) → rdG M tg v σ H Q

/-- behind a statement -/
def nxJ {γ : Type} (O : S → Res) (HI F0 : Hp) (Γn : γ → Asrt) (kn : γ → S → Prop) : L2.St → Hp → Prop := fun σ H => ∃ g s F, kn g s ∧ Same F0 F ∧ Stt O HI (Γn g) s σ F H
def rtJ {ρ : Type} (O : S → Res) (HI F0 : Hp) (A : ρ → VA) (R : ρ → S → Prop) : VK := fun v H => ∃ y s F, R y s ∧ Same F0 F ∧ SttV O HI [] s [] F H (A y) v
def XSs (M : Fm P w K mg base N sc fn k) (O : S → Res) (HI F0 : Hp) (Γ : Asrt) (s : S) (sts : List Stmt) (D : Ends) (Pf : Prop) : Prop :=
  ∀ (σ : L2.St) (F H : Hp), Same F0 F → Stt O HI Γ s σ F H → Pf → rdSs M sts D σ H
end
end Sm

set_option Elab.async false
set_option linter.all false
set_option maxRecDepth 100000
set_option maxHeartbeats 4000000
namespace Sm
open PySem PySem.Spec PyProof.Rows L2

/-- ==, in: as Lean tells -/
def eqB {α : Type} [DecidableEq α] (x y : α) : Bool := decide (x = y)
def memB {α : Type} [DecidableEq α] (x : α) (xs : List α) : Bool := decide (x ∈ xs)
@[simp] theorem eqB_iff {α : Type} [DecidableEq α] {x y : α} : eqB x y = true ↔ x = y := by simp [eqB]
@[simp] theorem memB_iff {α : Type} [DecidableEq α] {x : α} {xs : List α} : memB x xs = true ↔ x ∈ xs := by simp [memB]
/-! ### kinds of data -/
abbrev Text := List Nat
def pI : RP Int := ⟨fun i v _ => v = .int i, fun _ q => q⟩
def pB : RP Bool := ⟨fun i v _ => v = .bl i, fun _ q => q⟩
abbrev okT (x : Text) : Prop := ∀ c ∈ x, c < 1114112
def pT : RP Text := ⟨fun i v _ => v = .str ⟨i.toArray⟩ ∧ okT i, fun _ q => q⟩
theorem okT.append {x y : Text} (a : okT x) (b : okT y) : okT (x ++ y) := fun c hc => (List.mem_append.mp hc).elim (a c) (b c)
def pN : RP Unit := ⟨fun _ v _ => v = .non, fun _ q => q⟩
def pA : RP Addr := ⟨fun a v _ => v = .ref a, fun _ q => q⟩
def All2 {α : Type} (p : α → V → Prop) : List α → List V → Prop
  | [], [] => True
  | x :: xs, v :: vs => p x v ∧ All2 p xs vs
  | _, _ => False
section
variable {α β : Type} {p q : α → V → Prop}
theorem All2.imp (h : ∀ x v, p x v → q x v) : ∀ {xs : List α} {vs : List V}, All2 p xs vs → All2 q xs vs
  | [], [], _ => trivial
  | _ :: _, _ :: _, ⟨a, b⟩ => ⟨h _ _ a, All2.imp h b⟩
theorem All2.length : ∀ {xs : List α} {vs : List V}, All2 p xs vs → xs.length = vs.length
  | [], [], _ => rfl
  | _ :: _, _ :: _, ⟨_, b⟩ => congrArg (· + 1) (All2.length b)
theorem All2.get : ∀ {xs : List α} {vs : List V} {i : Nat} {x : α}, All2 p xs vs → xs[i]? = some x → ∃ v, vs[i]? = some v ∧ p x v
  | [], [], _, _, _, e => by simp at e
  | x :: xs, v :: vs, 0, y, ⟨a, _⟩, e => ⟨v, rfl, by have e' : x = y := Option.some.inj e; subst e'; exact a⟩
  | x :: xs, v :: vs, i + 1, y, ⟨_, b⟩, e => All2.get (i := i) b (by simpa using e)
theorem All2.append : ∀ {xs ys : List α} {vs ws : List V}, All2 p xs vs → All2 p ys ws → All2 p (xs ++ ys) (vs ++ ws)
  | [], _, [], _, _, b => b
  | _ :: _, _, _ :: _, _, ⟨a, c⟩, b => ⟨a, All2.append c b⟩
theorem All2.drop : ∀ {xs : List α} {vs : List V} (n : Nat), All2 p xs vs → All2 p (xs.drop n) (vs.drop n)
  | _, _, 0, h => h
  | [], [], _ + 1, h => h
  | _ :: _, _ :: _, n + 1, ⟨_, b⟩ => All2.drop n b
theorem All2.take : ∀ {xs : List α} {vs : List V} (n : Nat), All2 p xs vs → All2 p (xs.take n) (vs.take n)
  | _, _, 0, _ => trivial
  | [], [], _ + 1, _ => trivial
  | _ :: _, _ :: _, n + 1, ⟨a, b⟩ => ⟨a, All2.take n b⟩
theorem All2.set : ∀ {xs : List α} {vs : List V} {x : α} {v : V} (i : Nat), All2 p xs vs → p x v → All2 p (xs.set i x) (vs.set i v)
  | [], [], _, _, _, h, _ => h
  | _ :: _, _ :: _, _, _, 0, ⟨_, b⟩, a => ⟨a, b⟩
  | _ :: _, _ :: _, _, _, i + 1, ⟨c, b⟩, a => ⟨c, All2.set i b a⟩
theorem All2.eraseIdx : ∀ {xs : List α} {vs : List V} (i : Nat), All2 p xs vs → All2 p (xs.eraseIdx i) (vs.eraseIdx i)
  | [], [], _, h => h
  | _ :: _, _ :: _, 0, ⟨_, b⟩ => b
  | _ :: _, _ :: _, i + 1, ⟨c, b⟩ => ⟨c, All2.eraseIdx i b⟩
theorem All2.dropLast : ∀ {xs : List α} {vs : List V}, All2 p xs vs → All2 p xs.dropLast vs.dropLast
  | [], [], h => h
  | [_], [_], _ => trivial
  | _ :: _ :: _, _ :: _ :: _, ⟨a, b⟩ => ⟨a, All2.dropLast b⟩
  | [_], _ :: _ :: _, ⟨_, b⟩ => b.elim
  | _ :: _ :: _, [_], ⟨_, b⟩ => b.elim
theorem All2.map_eq {f : α → V} : ∀ {xs : List α} {vs : List V}, All2 (fun x v => v = f x) xs vs → vs = xs.map f
  | [], [], _ => rfl
  | _ :: _, _ :: _, ⟨a, b⟩ => by rw [a, All2.map_eq b]; rfl
theorem All2.of_map {f : α → V} : ∀ (xs : List α), All2 (fun x v => v = f x) xs (xs.map f)
  | [] => trivial
  | _ :: xs => ⟨rfl, All2.of_map xs⟩
theorem All2.reverse : ∀ {xs : List α} {vs : List V}, All2 p xs vs → All2 p xs.reverse vs.reverse
  | [], [], h => h
  | _ :: _, _ :: _, ⟨a, b⟩ => by rw [List.reverse_cons, List.reverse_cons]; exact (All2.reverse b).append ⟨a, trivial⟩
theorem All2.rep {xs : List α} {vs : List V} (h : All2 p xs vs) : ∀ k : Nat, All2 p (List.replicate k xs).flatten (List.replicate k vs).flatten
  | 0 => trivial
  | k + 1 => by rw [List.replicate_succ, List.replicate_succ, List.flatten_cons, List.flatten_cons]; exact h.append (All2.rep h k)
end
theorem SqL.mono {K : PySem.W.Frag} {H H' : Hp} {a : Addr} {xs : List V} (e : Same H H') (h : SqL K H a xs) : SqL K H' a xs := e.seq h
theorem SqT.mono {K : PySem.W.Frag} {H H' : Hp} {a : Addr} {xs : List V} (e : Same H H') (h : SqT K H a xs) : SqT K H' a xs := by
  rcases h with (h | ⟨o, h⟩) | h
  · exact .inl (.inl (e _ _ h))
  · exact .inl (.inr ⟨o, e _ _ h⟩)
  · exact .inr h
section
variable (K : PySem.W.Frag) {α β γ : Type}
/-- a list, a tuple of things of one kind; a pair, a triple; None or such; of one of two kinds -/
def pL (r : RP α) : RP (List α) := ⟨fun xs v F => ∃ a vs, v = .ref a ∧ SqL K F a vs ∧ All2 (fun x u => r.r x u F) xs vs,
  fun e ⟨a, vs, h1, h2, h3⟩ => ⟨a, vs, h1, SqL.mono e h2, h3.imp fun _ _ q => r.mono e q⟩⟩
def pU (r : RP α) : RP (List α) := ⟨fun xs v F => ∃ a vs, v = .ref a ∧ SqT K F a vs ∧ All2 (fun x u => r.r x u F) xs vs,
  fun e ⟨a, vs, h1, h2, h3⟩ => ⟨a, vs, h1, SqT.mono e h2, h3.imp fun _ _ q => r.mono e q⟩⟩
def pP (r : RP α) (q : RP β) : RP (α × β) := ⟨fun x v F => ∃ a u1 u2, v = .ref a ∧ SqT K F a [u1, u2] ∧ r.r x.1 u1 F ∧ q.r x.2 u2 F,
  fun e ⟨a, u1, u2, h1, h2, h3, h4⟩ => ⟨a, u1, u2, h1, SqT.mono e h2, r.mono e h3, q.mono e h4⟩⟩
def pP3 (r : RP α) (q : RP β) (t : RP γ) : RP (α × β × γ) := ⟨fun x v F => ∃ a u1 u2 u3, v = .ref a ∧ SqT K F a [u1, u2, u3] ∧ r.r x.1 u1 F ∧ q.r x.2.1 u2 F ∧ t.r x.2.2 u3 F,
  fun e ⟨a, u1, u2, u3, h1, h2, h3, h4, h5⟩ => ⟨a, u1, u2, u3, h1, SqT.mono e h2, r.mono e h3, q.mono e h4, t.mono e h5⟩⟩
def pO (r : RP α) : RP (Option α) := ⟨fun x v F => match x with | none => v = .non | some y => v ≠ .non ∧ r.r y v F,
  fun {x v F F'} e h => by cases x with | none => exact h | some y => exact ⟨h.1, r.mono e h.2⟩⟩
/-- a list that is owned: it may be changed -/
def ol (r : RP α) (xs : List α) : VA := ⟨fun v F h => ∃ a vs, v = .ref a ∧ h = [(a, .lst vs)] ∧ All2 (fun x u => r.r x u F) xs vs,
  fun e ⟨a, vs, h1, h2, h3⟩ => ⟨a, vs, h1, h2, h3.imp fun _ _ q => r.mono e q⟩⟩
end
section
variable {P : Program} {w : World} {K : PySem.W.Frag} {mg : Str → Option Value} {base : Heap} {N : List Str} {sc : Scope} {fn : Str → Bool} {k : Nat} {M : Fm P w K mg base N sc fn k}
variable {S : Type} {O : S → Res} {Γ : Asrt} {s : S} {α β ρ : Type} {ra : RP α} {rb : RP β} {A : ρ → VA}

/-! ### rules by values -/
def Op1 (r : V → Hp → VK → Prop) (ra : RP α) (A : ρ → VA) (Wo : α → (ρ → Prop) → Prop) : Prop :=
  ∀ {S : Type} (O : S → Res) (HI : Hp) (Γ : Asrt) (s : S) (σ : L2.St) (F H : Hp) (x : α) (u : V) (C : ρ → Prop) (Q : VK), Stt O HI Γ s σ F H → ra.r x u F →
    (∀ z v' F' H', C z → Same F F' → SttV O HI Γ s σ F' H' (A z) v' → Q v' H') → Wo x C → r u H Q
def Op2 (r : R2) (ra : RP α) (rb : RP β) (A : ρ → VA) (Wo : α → β → (ρ → Prop) → Prop) : Prop :=
  ∀ {S : Type} (O : S → Res) (HI : Hp) (Γ : Asrt) (s : S) (σ : L2.St) (F H : Hp) (x : α) (y : β) (u v : V) (C : ρ → Prop) (Q : VK), Stt O HI Γ s σ F H → ra.r x u F → rb.r y v F →
    (∀ z v' F' H', C z → Same F F' → SttV O HI Γ s σ F' H' (A z) v' → Q v' H') → Wo x y C → r u v H Q
theorem Stt.same {HI F H : Hp} {σ : L2.St} (h : Stt O HI Γ s σ F H) : Same F H := h.ok

theorem two {a b : Expr} {wa : (α → S → Prop) → Prop} {wb : S → (β → S → Prop) → Prop} (ha : XE M O Γ s a (fz ra) wa) (hb : ∀ s', XE M O Γ s' b (fz rb) (wb s'))
    {HI : Hp} {C : α → β → S → Prop} {R : V → V → Hp → Prop} {σ : L2.St} {F H : Hp} (st : Stt O HI Γ s σ F H)
    (hr : ∀ x y s' u v F' H', C x y s' → Same F F' → ra.r x u F' → rb.r y v F' → Stt O HI Γ s' σ F' H' → R u v H') (hc : wa fun x s1 => wb s1 fun y s2 => C x y s2) :
    rdE M a σ H fun u H1 => rdE M b σ H1 fun v H2 => R u v H2 := by
  refine ha HI _ _ σ F H st (fun x s1 u F1 H1 c1 e1 sv1 => ?_) hc
  obtain ⟨rx, st1⟩ := sv1.fz
  refine hb s1 HI _ _ σ F1 H1 st1 (fun y s2 v F2 H2 c2 e2 sv2 => ?_) c1
  obtain ⟨ry, st2⟩ := sv2.fz
  exact hr x y s2 u v F2 H2 c2 (e1.trans e2) (ra.mono e2 rx) ry st2
theorem xe_bin {a b : Expr} {op : Operator} {pos : Pos} {r : R2} {Wo : α → β → (ρ → Prop) → Prop} {wa : (α → S → Prop) → Prop} {wb : S → (β → S → Prop) → Prop}
    (ho : ∀ i, OpR (M.X i) (binaryOp op) r) (hr : Op2 r ra rb A Wo) (ha : XE M O Γ s a (fz ra) wa) (hb : ∀ s', XE M O Γ s' b (fz rb) (wb s')) :
    XE M O Γ s (.BinOp a op b pos) A (fun k => wa fun x s1 => wb s1 fun y s2 => Wo x y fun z => k z s2) := by
  intro HI C Q σ F H st hq hc
  refine ⟨_, fun i => pe_op (ho i) (rdE_ok i) (rdE_ok i), two ha hb st (fun x y s' u v F' H' c e rx ry st' => ?_) hc⟩
  exact hr O HI Γ s' σ F' H' x y u v _ Q st' rx ry (fun z v' F2 H2 c2 e2 sv => hq z s' v' F2 H2 c2 (e.trans e2) sv) c
theorem xe_un {a : Expr} {op : UnaryOp} {pos : Pos} {r : V → Hp → VK → Prop} {Wo : α → (ρ → Prop) → Prop} {wa : (α → S → Prop) → Prop}
    (ho : ∀ i, UnR (M.X i) (unaryOp op) r) (hr : Op1 r ra A Wo) (ha : XE M O Γ s a (fz ra) wa) :
    XE M O Γ s (.UnaryOp op a pos) A (fun k => wa fun x s1 => Wo x fun z => k z s1) := by
  intro HI C Q σ F H st hq hc
  refine ⟨_, fun i => pe_un (ho i) (rdE_ok i), ha HI _ _ σ F H st (fun x s1 u F1 H1 c1 e1 sv1 => ?_) hc⟩
  obtain ⟨rx, st1⟩ := sv1.fz
  exact hr O HI Γ s1 σ F1 H1 x u _ Q st1 rx (fun z v' F2 H2 c2 e2 sv => hq z s1 v' F2 H2 c2 (e1.trans e2) sv) c1
theorem xc_op {a b : Expr} {op : CmpOp} {r : R2} {Wo : α → β → (Bool → Prop) → Prop} {wa : (α → S → Prop) → Prop} {wb : S → (β → S → Prop) → Prop}
    (ho : ∀ i, OpR (M.X i) (compareOp op) r) (hr : Op2 r ra rb (fz pB) Wo) (ha : XE M O Γ s a (fz ra) wa) (hb : ∀ s', XE M O Γ s' b (fz rb) (wb s')) :
    XC M O Γ s op a b (fun k => wa fun x s1 => wb s1 fun y s2 => Wo x y fun z => k z s2) := by
  intro HI C Q σ F H st hq hc
  refine ⟨r, ho, two ha hb st (fun x y s' u v F' H' c e rx ry st' => ?_) hc⟩
  refine hr O HI Γ s' σ F' H' x y u v _ Q st' rx ry (fun z v' F2 H2 c2 e2 sv => ?_) c
  obtain ⟨rz, st2⟩ := sv.fz
  have rz : v' = .bl z := rz
  subst rz
  exact hq z s' F2 H2 c2 (e.trans e2) st2
def Mrk (op : CmpOp) (b : Expr) : Prop := behindInMarks op b = false
theorem xe_cmp {a b : Expr} {op : CmpOp} {pos : Pos} {W : (Bool → S → Prop) → Prop} (h : XC M O Γ s op a b W) (hm : behindInMarks op b = false := by first | exact nomark _ | rfl) : XE M O Γ s (.Compare a [op] [b] pos) (fz pB) W := by
  intro HI C Q σ F H st hq hc
  obtain ⟨r, ho, q⟩ := h HI C Q σ F H st (fun x s' F' H' c e st' => hq x s' _ F' H' c e (st'.val rfl)) hc
  exact ⟨_, fun i => pe_cmpR (ho i) (rdE_ok i) (rdE_ok i) hm, q⟩
theorem xt_cmp {a b : Expr} {op : CmpOp} {pos : Pos} {W : (Bool → S → Prop) → Prop} (h : XC M O Γ s op a b W) (hm : behindInMarks op b = false := by first | exact nomark _ | rfl) : XT M O Γ s (.Compare a [op] [b] pos) W := by
  intro HI C Q σ F H st hq hc
  obtain ⟨r, ho, q⟩ := h HI C (fun x H' => ∃ k, x = .bl k ∧ Q k H') σ F H st (fun x s' F' H' c e st' => ⟨x, rfl, hq x s' F' H' c e st'⟩) hc
  exact ⟨_, fun i => pt_cmpR (ho i) (rdE_ok i) (rdE_ok i) hm, q⟩

/-! ### names, constants -/
theorem xe_var {i : Nat} {x : Str} {pos : Pos} {a : α} (hΓ : Γ[i]? = some (some (fz ra a))) (hN : N[i]? = some x := by rfl) (hv : Vis sc x := by first | exact Or.inl rfl | exact Or.inr (Or.inl rfl) | exact Or.inr (Or.inr rfl))
    (hd : (x == ("__debug__" : Str)) = false := by decide) (hcd : (x == ("__classdict__" : Str)) = false := by decide) : XE M O Γ s (.Name x pos) (fz ra) (fun k => k a s) := by
  intro HI C Q σ F H st hq hc
  obtain ⟨v, e, r⟩ := st.slot hΓ
  exact ⟨tVar i, fun j => pe_var (by rw [M.nn]; exact hN) (by rw [M.scp]; exact hv) hd hcd, v, e, hq a s v F H hc (Same.refl _) (st.val r)⟩
theorem xe_int {i : Int} {j pos} : XE M O Γ s (.Constant (.int i) j pos) (fz pI) (fun k => k i s) := by
  intro HI C Q σ F H st hq hc
  exact ⟨_, fun j => pe_int, hq i s _ F H hc (Same.refl _) (st.val rfl)⟩
theorem xe_bl {i : Bool} {j pos} : XE M O Γ s (.Constant (.bool i) j pos) (fz pB) (fun k => k i s) := by
  intro HI C Q σ F H st hq hc
  exact ⟨_, fun j => pe_bl, hq i s _ F H hc (Same.refl _) (st.val rfl)⟩
theorem xe_non {j pos} : XE M O Γ s (.Constant .none j pos) (fz pN) (fun k => k () s) := by
  intro HI C Q σ F H st hq hc
  exact ⟨_, fun j => pe_non, hq () s _ F H hc (Same.refl _) (st.val rfl)⟩
theorem xe_str {x : Str} {j pos} (l : Text) (e : x.cps = l.toArray := by decide +kernel) (ok : okT l := by decide) : XE M O Γ s (.Constant (.str x) j pos) (fz pT) (fun k => k l s) := by
  intro HI C Q σ F H st hq hc
  exact ⟨_, fun j => pe_str, hq l s _ F H hc (Same.refl _) (st.val ⟨show V.str x = .str ⟨l.toArray⟩ by rw [← e], ok⟩)⟩
/-- None where something may be -/
theorem xe_none {e : Expr} {W : (Unit → S → Prop) → Prop} (h : XE M O Γ s e (fz pN) W) : XE M O Γ s e (fz (pO ra)) (fun k => W fun _ s' => k none s') := by
  intro HI C Q σ F H st hq hc
  refine h HI _ Q σ F H st (fun x s' v F' H' c e sv => ?_) hc
  obtain ⟨r, st'⟩ := sv.fz
  exact hq none s' v F' H' c e (st'.val r)
theorem xe_some {e : Expr} {W : (α → S → Prop) → Prop} (h : XE M O Γ s e (fz ra) W) (hn : ∀ x F, ¬ ra.r x .non F) : XE M O Γ s e (fz (pO ra)) (fun k => W fun x s' => k (some x) s') := by
  intro HI C Q σ F H st hq hc
  refine h HI _ Q σ F H st (fun x s' v F' H' c e sv => ?_) hc
  obtain ⟨r, st'⟩ := sv.fz
  exact hq (some x) s' v F' H' c e (st'.val ⟨fun z => hn x F' (by rw [← z]; exact r), r⟩)

/-! ### tests -/
theorem xt_val {e : Expr} {W : (Bool → S → Prop) → Prop} (h : XE M O Γ s e (fz pB) W) (he : ∀ i whole, isTrue e (M.X i).env whole = (do let v ← whole; standAt e.pos; holding [v] (truthy v)) := by intro _ _; rfl) : XT M O Γ s e W := by
  intro HI C Q σ F H st hq hc
  refine ⟨_, fun i => pt_val (rdE_ok i) (he i), h HI C _ σ F H st (fun x s' v F' H' c e sv => ?_) hc⟩
  obtain ⟨r, st'⟩ := sv.fz
  exact ⟨x, r, hq x s' F' H' c e st'⟩
theorem xt_not {e : Expr} {pos : Pos} {W : (Bool → S → Prop) → Prop} (h : XT M O Γ s e W) : XT M O Γ s (.UnaryOp .Not e pos) (fun k => W fun b s' => k (!b) s') := by
  intro HI C Q σ F H st hq hc
  exact ⟨_, fun i => pt_not (rdT_ok i), h HI _ _ σ F H st (fun x s' F' H' c e st' => hq (!x) s' F' H' c e st') hc⟩
theorem xt_w {e : Expr} {W : (Bool → S → Prop) → Prop} (h : XW M O Γ s e W) : XT M O Γ s e W := by
  intro HI C Q σ F H st hq hc
  obtain ⟨t, h1, h2⟩ := h HI C Q σ F H st hq hc
  exact ⟨t, fun i => (h1 i).pt, h2⟩
theorem xw_and1 {a : Expr} {pos : Pos} {W : (Bool → S → Prop) → Prop} (h : XT M O Γ s a W) : XW M O Γ s (.BoolOp .And [a] pos) W := by
  intro HI C Q σ F H st hq hc
  exact ⟨_, fun i => pw_and1 (rdT_ok i), h HI C Q σ F H st hq hc⟩
theorem xw_or1 {a : Expr} {pos : Pos} {W : (Bool → S → Prop) → Prop} (h : XT M O Γ s a W) : XW M O Γ s (.BoolOp .Or [a] pos) W := by
  intro HI C Q σ F H st hq hc
  exact ⟨_, fun i => pw_or1 (rdT_ok i), h HI C Q σ F H st hq hc⟩
theorem xw_and {a b : Expr} {rest : List Expr} {pos : Pos} {wa : (Bool → S → Prop) → Prop} {wb : S → (Bool → S → Prop) → Prop} (ha : XT M O Γ s a wa) (hb : ∀ s', XW M O Γ s' (.BoolOp .And (b :: rest) pos) (wb s')) :
    XW M O Γ s (.BoolOp .And (a :: b :: rest) pos) (fun k => wa fun x s1 => if x = true then wb s1 k else k false s1) := by
  intro HI C Q σ F H st hq hc
  refine ⟨_, fun i => pw_and (rdT_ok i) (rdW_ok i), ha HI _ _ σ F H st (fun x s1 F1 H1 c e st1 => ?_) hc⟩
  cases x with
  | true => exact (iteT (hb s1 HI C Q σ F1 H1 st1 (fun y s2 F2 H2 c2 e2 st2 => hq y s2 F2 H2 c2 (e.trans e2) st2) (by simpa using c)) : ite _ _ _)
  | false => exact (iteF (hq false s1 F1 H1 (by simpa using c) e st1) : ite _ _ _)
theorem xw_or {a b : Expr} {rest : List Expr} {pos : Pos} {wa : (Bool → S → Prop) → Prop} {wb : S → (Bool → S → Prop) → Prop} (ha : XT M O Γ s a wa) (hb : ∀ s', XW M O Γ s' (.BoolOp .Or (b :: rest) pos) (wb s')) :
    XW M O Γ s (.BoolOp .Or (a :: b :: rest) pos) (fun k => wa fun x s1 => if x = true then k true s1 else wb s1 k) := by
  intro HI C Q σ F H st hq hc
  refine ⟨_, fun i => pw_or (rdT_ok i) (rdW_ok i), ha HI _ _ σ F H st (fun x s1 F1 H1 c e st1 => ?_) hc⟩
  cases x with
  | true => exact (iteT (hq true s1 F1 H1 (by simpa using c) e st1) : ite _ _ _)
  | false => exact (iteF (hb s1 HI C Q σ F1 H1 st1 (fun y s2 F2 H2 c2 e2 st2 => hq y s2 F2 H2 c2 (e.trans e2) st2) (by simpa using c)) : ite _ _ _)
/-- .. as values -/
theorem xe_one {op} {a : Expr} {pos : Pos} {W : (Bool → S → Prop) → Prop} (h : XE M O Γ s a (fz pB) W) : XE M O Γ s (.BoolOp op [a] pos) (fz pB) W := by
  intro HI C Q σ F H st hq hc
  exact ⟨_, fun i => pe_one (rdE_ok i), h HI C Q σ F H st hq hc⟩
theorem xe_and {a b : Expr} {rest : List Expr} {pos : Pos} {wa : (Bool → S → Prop) → Prop} {wb : S → (Bool → S → Prop) → Prop} (ha : XE M O Γ s a (fz pB) wa) (hb : ∀ s', XE M O Γ s' (.BoolOp .And (b :: rest) pos) (fz pB) (wb s')) :
    XE M O Γ s (.BoolOp .And (a :: b :: rest) pos) (fz pB) (fun k => wa fun x s1 => if x = true then wb s1 k else k false s1) := by
  intro HI C Q σ F H st hq hc
  refine ⟨_, fun i => pe_and (rdE_ok i) (rdE_ok i), ha HI _ _ σ F H st (fun x s1 v F1 H1 c e sv1 => ?_) hc⟩
  obtain ⟨r, st1⟩ := sv1.fz
  refine ⟨x, r, ?_⟩
  cases x with
  | true => exact (iteT (hb s1 HI C Q σ F1 H1 st1 (fun y s2 v F2 H2 c2 e2 st2 => hq y s2 v F2 H2 c2 (e.trans e2) st2) (by simpa using c)) : ite _ _ _)
  | false => exact (iteF (hq false s1 _ F1 H1 (by simpa using c) e (st1.val rfl)) : ite _ _ _)
theorem xe_or {a b : Expr} {rest : List Expr} {pos : Pos} {wa : (Bool → S → Prop) → Prop} {wb : S → (Bool → S → Prop) → Prop} (ha : XE M O Γ s a (fz pB) wa) (hb : ∀ s', XE M O Γ s' (.BoolOp .Or (b :: rest) pos) (fz pB) (wb s')) :
    XE M O Γ s (.BoolOp .Or (a :: b :: rest) pos) (fz pB) (fun k => wa fun x s1 => if x = true then k true s1 else wb s1 k) := by
  intro HI C Q σ F H st hq hc
  refine ⟨_, fun i => pe_or (rdE_ok i) (rdE_ok i), ha HI _ _ σ F H st (fun x s1 v F1 H1 c e sv1 => ?_) hc⟩
  obtain ⟨r, st1⟩ := sv1.fz
  refine ⟨x, r, ?_⟩
  cases x with
  | true => exact (iteT (hq true s1 _ F1 H1 (by simpa using c) e (st1.val rfl)) : ite _ _ _)
  | false => exact (iteF (hb s1 HI C Q σ F1 H1 st1 (fun y s2 v F2 H2 c2 e2 st2 => hq y s2 v F2 H2 c2 (e.trans e2) st2) (by simpa using c)) : ite _ _ _)
theorem xe_not {e : Expr} {pos : Pos} {W : (Bool → S → Prop) → Prop} (h : XE M O Γ s e (fz pB) W) : XE M O Γ s (.UnaryOp .Not e pos) (fz pB) (fun k => W fun b s' => k (!b) s') := by
  intro HI C Q σ F H st hq hc
  refine ⟨_, fun i => pe_not (rdE_ok i), h HI _ _ σ F H st (fun x s' v F' H' c e sv => ?_) hc⟩
  obtain ⟨r, st'⟩ := sv.fz
  exact ⟨x, r, hq (!x) s' _ F' H' c e (st'.val rfl)⟩
theorem xe_if {c a b : Expr} {pos : Pos} {wc : (Bool → S → Prop) → Prop} {wa wb : S → (ρ → S → Prop) → Prop} (hc : XT M O Γ s c wc) (ha : ∀ s', XE M O Γ s' a A (wa s')) (hb : ∀ s', XE M O Γ s' b A (wb s')) :
    XE M O Γ s (.IfExp c a b pos) A (fun k => wc fun x s1 => if x = true then wa s1 k else wb s1 k) := by
  intro HI C Q σ F H st hq hw
  refine ⟨_, fun i => pe_ifExp (rdT_ok i) (rdE_ok i) (rdE_ok i), hc HI _ _ σ F H st (fun x s1 F1 H1 c e st1 => ?_) hw⟩
  cases x with
  | true => exact (iteT (ha s1 HI C Q σ F1 H1 st1 (fun y s2 v F2 H2 c2 e2 sv => hq y s2 v F2 H2 c2 (e.trans e2) sv) (by simpa using c)) : ite _ _ _)
  | false => exact (iteF (hb s1 HI C Q σ F1 H1 st1 (fun y s2 v F2 H2 c2 e2 sv => hq y s2 v F2 H2 c2 (e.trans e2) sv) (by simpa using c)) : ite _ _ _)
/-- an owned list is frozen -/
theorem xe_fr {e : Expr} {W : (List α → S → Prop) → Prop} (h : XE M O Γ s e (ol ra) W) : XE M O Γ s e (fz (pL K ra)) W := by
  intro HI C Q σ F H st hq hc
  refine h HI _ Q σ F H st (fun x s' v F' H' c e sv => ?_) hc
  obtain ⟨hv, h1, h2, ⟨a, vs, ev, eh, al⟩, b, cc, d⟩ := sv
  subst ev eh
  have dn := d.freeze
  have e2 : Same F' (upd F' a (.lst vs)) := same_upd (d.own _ List.mem_cons_self).2.1
  refine hq x s' _ _ H' c (e.trans e2) ⟨[], h1, h2, ⟨rfl, a, vs, rfl, .inl (.inl upd_same), al.imp fun _ _ q => ra.mono e2 q⟩, b.mono e2, (O s').mono e2 cc, dn⟩
end
end Sm

set_option Elab.async false
set_option linter.all false
set_option maxRecDepth 100000
set_option maxHeartbeats 4000000
/-! zip and enumerate over texts, lists, tuples, in any mix. -/
namespace Sm
open PySem PySem.Spec PyProof.Rows L2

/-- what is drawn from: a text, a list, a tuple -/
inductive Kd | txt (x : Str) (t : Tok) | lst (a : Addr) | tup (a : Addr)
def Kd.val : Kd → Value | .txt x t => .str x t | .lst a => .ref a | .tup a => .ref a
def Kd.obj : Kd → Obj
  | .txt x t => { cls := .type (strIterType x), data := .fields #[.str x t, .int 0 0] }
  | .lst a => { cls := .type "list_iterator", data := .fields #[.ref a, .int 0 0] }
  | .tup a => { cls := .type "tuple_iterator", data := .fields #[.ref a, .int 0 0] }
def Kd.tn (it : Addr) (i : Nat) (h : Heap) : Kd → Prop
  | .txt x t => h.IsStrIter it (strIterType x) x t i
  | .lst a => h.IsListIter it a i ∧ a ≠ it
  | .tup a => h.IsTupleIter it a i ∧ a ≠ it
def Kd.its (K : PySem.W.Frag) (H : Hp) (xs : List V) : Kd → Prop
  | .txt x _ => xs = x.cps.toList.map fun c => V.str ⟨#[c]⟩
  | .lst a => SqL K H a xs
  | .tup a => SqT K H a xs
def Kd.fp (it : Addr) : Kd → List Addr
  | .txt _ _ => [it]
  | .lst a => [it, a]
  | .tup a => [it, a]
theorem Kd.it_mem (it : Addr) (kd : Kd) : it ∈ kd.fp it := by cases kd <;> simp [Kd.fp]
theorem Kd.fp_old {it b : Addr} {kd : Kd} (h : b ∈ kd.fp it) : b = it ∨ kd.val = .ref b := by
  cases kd with
  | txt x t => left; simpa [Kd.fp] using h
  | lst a =>
    have h : b = it ∨ b = a := by simpa [Kd.fp] using h
    rcases h with h | h
    · exact .inl h
    · right; subst h; rfl
  | tup a =>
    have h : b = it ∨ b = a := by simpa [Kd.fp] using h
    rcases h with h | h
    · exact .inl h
    · right; subst h; rfl
theorem Kd.live {it : Addr} {i : Nat} {h : Heap} {kd : Kd} (t : kd.tn it i h) : ∃ o, h.get? it = some o ∧ ∀ v, o.data ≠ .cell v := by
  cases kd with
  | txt x t' => obtain ⟨o, e, _, d⟩ := t; exact ⟨o, e, fun v q => by rw [d] at q; cases q⟩
  | lst a => obtain ⟨⟨o, e, _, d⟩, _⟩ := t; exact ⟨o, e, fun v q => by rw [d] at q; cases q⟩
  | tup a => obtain ⟨⟨o, e, _, d⟩, _⟩ := t; exact ⟨o, e, fun v q => by rw [d] at q; cases q⟩
theorem Kd.keep {it : Addr} {i : Nat} {h h' : Heap} {kd : Kd} (t : kd.tn it i h) (k : ∀ o, h.get? it = some o → h'.get? it = some o) : kd.tn it i h' := by
  cases kd with
  | txt x t' => obtain ⟨o, e, r⟩ := t; exact ⟨o, k o e, r⟩
  | lst a => obtain ⟨⟨o, e, r⟩, n⟩ := t; exact ⟨⟨o, k o e, r⟩, n⟩
  | tup a => obtain ⟨⟨o, e, r⟩, n⟩ := t; exact ⟨⟨o, k o e, r⟩, n⟩
section
variable {X : Cx} {pins : List (Addr × Obj)} {σ : L2.St} {H : Hp} {s : Shared}
theorem Kd.inj (I : Inv X pins σ H s) {kd : Kd} {xs ys : List V} (a : kd.its X.K H xs) (b : kd.its X.K H ys) : xs = ys := by
  cases kd with
  | txt x t => exact Eq.trans a (Eq.symm b)
  | lst p => exact I.list_inj a b
  | tup p => exact I.tuple_inj a b
theorem Kd.draws (I : Inv X pins σ H s) {kd : Kd} {xs : List V} (q : kd.its X.K H xs) {P : Program} {w : World} {A : Around} (hh : A.handled = none) (it : Addr) {i : Nat} (tn : kd.tn it i s.heap) :
    ∃ (n : Nat) (Pt : Nat → Value → Prop) (St : Nat → Heap → Prop), Draws P w A it (kd.fp it) n Pt St ∧ n = xs.length ∧ (∀ i v, Pt i v → ∃ x, xs[i]? = some x ∧ RelV x v) ∧ St i s.heap ∧ (∀ i h, St i h → kd.tn it i h) := by
  cases kd with
  | txt x t =>
    refine ⟨_, _, _, Draws.text hh it x t, ?_, fun i v ⟨c, u, hc, ev⟩ => ?_, tn, fun i h st => st⟩
    · have q : xs = _ := q
      rw [q]; simp
    · have q : xs = _ := q
      refine ⟨.str ⟨#[c]⟩, ?_, u, ev⟩
      rw [q]; simp [hc]
  | lst a =>
    obtain ⟨its, rv, p, hz⟩ := I.list q
    refine ⟨_, _, _, Draws.list hh it a tn.2 its.toArray, ?_, fun i v hv => ?_, ⟨tn.1, p.isList⟩, fun i h st => ⟨st.1, tn.2⟩⟩
    · simp [rv.length]
    · have hv : its[i]? = some v := by simpa using hv
      have hl : i < xs.length := by rw [rv.length]; exact (List.getElem?_eq_some_iff.mp hv).1
      obtain ⟨u, hu, r⟩ := rv.get (List.getElem?_eq_getElem hl)
      rw [hv] at hu; cases hu
      exact ⟨_, List.getElem?_eq_getElem hl, r⟩
  | tup a =>
    obtain ⟨its, rv, p, hz⟩ := I.tuple q
    refine ⟨_, _, _, Draws.tuple hh it a tn.2 its.toArray, ?_, fun i v hv => ?_, ⟨tn.1, p⟩, fun i h st => ⟨st.1, tn.2⟩⟩
    · simp [rv.length]
    · have hv : its[i]? = some v := by simpa using hv
      have hl : i < xs.length := by rw [rv.length]; exact (List.getElem?_eq_some_iff.mp hv).1
      obtain ⟨u, hu, r⟩ := rv.get (List.getElem?_eq_getElem hl)
      rw [hv] at hu; cases hu
      exact ⟨_, List.getElem?_eq_getElem hl, r⟩
theorem Kd.begins (I : Inv X pins σ H s) {kd : Kd} {xs : List V} (q : kd.its X.K H xs) : ∃ Hk : Heap → Prop, Begins kd.val kd.obj Hk ∧ Hk s.heap := by
  cases kd with
  | txt x t => exact ⟨_, begins_text x t, trivial⟩
  | lst a => obtain ⟨its, rv, p, hz⟩ := I.list q; exact ⟨_, begins_list a its.toArray, p.isList⟩
  | tup a => obtain ⟨its, rv, p, hz⟩ := I.tuple q; exact ⟨_, begins_tuple a its.toArray, p⟩
theorem Kd.lt (I : Inv X pins σ H s) {kd : Kd} {xs : List V} (q : kd.its X.K H xs) {a : Addr} (e : kd.val = .ref a) : a < s.heap.objs.size := by
  cases kd with
  | txt x t => cases e
  | lst b => obtain ⟨its, rv, p, hz⟩ := I.list q; cases e; exact p.lt
  | tup b => obtain ⟨its, rv, p, hz⟩ := I.tuple q; cases e; exact p.lt
theorem Kd.first {kd : Kd} {it : Addr} {h : Heap} (g : h.get? it = some kd.obj) (hlt : ∀ a, kd.val = .ref a → a ≠ it) : kd.tn it 0 h := by
  cases kd with
  | txt x t => exact ⟨_, g, rfl, rfl⟩
  | lst a => exact ⟨⟨_, g, rfl, rfl⟩, hlt a rfl⟩
  | tup a => exact ⟨⟨_, g, rfl, rfl⟩, hlt a rfl⟩
end

/-! ### zip -/
def JZ (K : PySem.W.Frag) (k1 k2 : Kd) : It :=
  ⟨fun i H => ∃ (xs ys : List V) (x y : V), k1.its K H xs ∧ k2.its K H ys ∧ xs[i]? = some x ∧ ys[i]? = some y,
    fun i H v H' => ∃ T x y, v = .ref T ∧ H T = none ∧ H' = upd H T (.tup [x, y]) ∧ (∀ xs, k1.its K H xs → xs[i]? = some x) ∧ ∀ ys, k2.its K H ys → ys[i]? = some y,
    fun i H => ∃ xs ys : List V, k1.its K H xs ∧ k2.its K H ys ∧ i = min xs.length ys.length⟩
theorem turn_z {P : Program} {w : World} {K : PySem.W.Frag} {elts : List Expr} {kk : Nat} {tpos : Pos} {z TI TO i1 i2 : Addr} (k1 k2 : Kd) (D : ZipSep2 z TI TO i1 i2 (k1.fp i1) (k2.fp i2)) :
    Turn P w K (.Tuple elts kk tpos) (JZ K k1 k2) [z, TI, TO, i1, i2] z (fun i h => IsZip h z TI TO .none ∧ IsTupOf2 h TI (.ref i1) (.ref i2) ∧ (∃ a1 a2, IsTupOf2 h TO a1 a2) ∧ k1.tn i1 i h ∧ k2.tn i2 i h) where
  mem := by simp
  obj := fun i h st c hc => by
    obtain ⟨hz, hTI, ⟨x, y, hTO⟩, h1, h2⟩ := st
    have e' : c = z ∨ c = TI ∨ c = TO ∨ c = i1 ∨ c = i2 := by simpa using hc
    rcases e' with q | q | q | q | q
    · rw [q]; exact ⟨_, hz, fun v q => nomatch q⟩
    · rw [q]; exact ⟨_, hTI, fun v q => nomatch q⟩
    · rw [q]; exact ⟨_, hTO, fun v q => nomatch q⟩
    · rw [q]; exact (Kd.live (kd := k1) h1)
    · rw [q]; exact (Kd.live (kd := k2) h2)
  keep := fun i h h' st k => by
    obtain ⟨hz, hTI, ⟨x, y, hTO⟩, h1, h2⟩ := st
    exact ⟨k z (by simp) _ hz, k TI (by simp) _ hTI, ⟨x, y, k TO (by simp) _ hTO⟩, Kd.keep (kd := k1) h1 (k i1 (by simp)), Kd.keep (kd := k2) h2 (k i2 (by simp))⟩
  item := by
    intro X hP hw hK hc i pins s σ H E I hf st hg
    subst hP hw hK
    obtain ⟨hz, hTI, hTO, h1, h2⟩ := st
    obtain ⟨xs, ys, x, y, hqx, hqy, hx, hy⟩ := hg
    obtain ⟨n1, P1, St1, D1, e1, p1, q1, r1⟩ := Kd.draws I hqx (P := X.prog) (w := X.w) (A := X.A.in1) (I.ok.hd hc) i1 h1
    obtain ⟨n2, P2, St2, D2, e2, p2, q2, r2⟩ := Kd.draws I hqy (P := X.prog) (w := X.w) (A := X.A.in1) (I.ok.hd hc) i2 h2
    have hi1 : i < xs.length := (List.getElem?_eq_some_iff.mp hx).1
    have hi2 : i < ys.length := (List.getElem?_eq_some_iff.mp hy).1
    refine wpAny_mono ((GoesN.zip2 (A := X.A) (elts := elts) (x1 := kk) (pos := tpos) D D1 D2).goes i s _ E (by omega) ⟨hz, hTI, hTO, q1, q2⟩ fun v h' tk hY hst hk htk => ?_) (fun r s1 h => h) fun _ _ h => h
    obtain ⟨T, u1, u2, ev, hT, hp1, hp2, hTup⟩ := hY
    subst ev
    obtain ⟨y1, g1, ru1⟩ := p1 i u1 hp1
    obtain ⟨y2, g2, ru2⟩ := p2 i u2 hp2
    rw [hx] at g1; cases g1
    rw [hy] at g2; cases g2
    have new : ObjOk X.prog X.w (upd H T (.tup [x, y])) h' T (.tup [x, y]) := ⟨by show 2 ≤ sizeLine; decide, [u1, u2], .cons ru1 (.cons ru2 .nil), hTup⟩
    have I1 : Inv X pins σ (upd H T (.tup [x, y])) { s with heap := h', toks := tk } :=
      I.turnedNew (ch := [z, TI, TO, i1, i2]) (fun c o hb q => hk c o (fun z' => hb (by simp at z' ⊢; rcases z' with z' | z' | z' | z' <;> simp [z'])) q) hf hT new
    refine ⟨.ref T, _, I1, rfl, ⟨T, x, y, rfl, I.hok.fresh hT, rfl, fun l hl => by rw [Kd.inj I hl hqx]; exact hx, fun l hl => by rw [Kd.inj I hl hqy]; exact hy⟩,
      ⟨hst.1, hst.2.1, hst.2.2.1, r1 _ _ hst.2.2.2.1, r2 _ _ hst.2.2.2.2⟩, fun c hcm => ?_⟩
    have hlt : c < s.heap.objs.size := by
      have e' : c = z ∨ c = TI ∨ c = TO ∨ c = i1 ∨ c = i2 := by simpa using hcm
      obtain ⟨a1, a2, hTO⟩ := hTO
      rcases e' with q | q | q | q | q
      · rw [q]; exact Heap.lt_size hz
      · rw [q]; exact Heap.lt_size hTI
      · rw [q]; exact Heap.lt_size hTO
      · rw [q]; obtain ⟨_, e1, _⟩ := (Kd.live (kd := k1) h1); exact Heap.lt_size e1
      · rw [q]; obtain ⟨_, e2, _⟩ := (Kd.live (kd := k2) h2); exact Heap.lt_size e2
    rw [upd_ne (Nat.ne_of_lt (Nat.lt_of_lt_of_le hlt hT))]
    exact (hf c hcm).1
  done := by
    intro X hP hw hK hc i pins s σ H E I hf st hg
    subst hP hw hK
    obtain ⟨hz, hTI, hTO, h1, h2⟩ := st
    obtain ⟨xs, ys, hqx, hqy, hend⟩ := hg
    obtain ⟨n1, P1, St1, D1, e1, p1, q1, r1⟩ := Kd.draws I hqx (P := X.prog) (w := X.w) (A := X.A.in1) (I.ok.hd hc) i1 h1
    obtain ⟨n2, P2, St2, D2, e2, p2, q2, r2⟩ := Kd.draws I hqy (P := X.prog) (w := X.w) (A := X.A.in1) (I.ok.hd hc) i2 h2
    have en : i = min n1 n2 := by rw [e1, e2]; exact hend
    subst en
    refine (GoesN.zip2 (A := X.A) (elts := elts) (x1 := kk) (pos := tpos) D D1 D2).stops s _ E ⟨hz, hTI, hTO, q1, q2⟩ fun h' tk hk htk => ?_
    exact I.turnedL (ch := [z, TI, TO, i1, i2]) (fun c o hb q => hk c o (fun z' => hb (by simp at z' ⊢; rcases z' with z' | z' | z' | z' <;> simp [z'])) q) hf
  self := fun A i s Q E st h => wpAny_pyIter_zip st.1 h
/-- the values that come to zip, enumerate -/
def KdV (K : PySem.W.Frag) (H : Hp) (v : V) (xs : List V) (R : Kd → Prop) : Prop :=
  (∃ x, v = .str x ∧ xs = (x.cps.toList.map fun c => V.str ⟨#[c]⟩) ∧ ∀ t, R (.txt x t)) ∨ (∃ a, v = .ref a ∧ SqL K H a xs ∧ R (.lst a)) ∨ ∃ a, v = .ref a ∧ SqT K H a xs ∧ R (.tup a)
theorem KdV.of {K : PySem.W.Frag} {H : Hp} {v : V} {u : Value} {xs : List V} {R : Kd → Prop} (h : KdV K H v xs R) (r : RelV v u) : ∃ kd : Kd, kd.val = u ∧ kd.its K H xs ∧ R kd := by
  rcases h with ⟨x, e, ex, q⟩ | ⟨a, e, hs, q⟩ | ⟨a, e, hs, q⟩
  · subst e; obtain ⟨t, rfl⟩ := r; exact ⟨.txt x t, rfl, ex, q t⟩
  · subst e; cases r; exact ⟨.lst a, rfl, hs, q⟩
  · subst e; cases r; exact ⟨.tup a, rfl, hs, q⟩
def iZ (K : PySem.W.Frag) (ta : TA) : TI := fun σ H R => ta σ H fun vs H1 => ∃ v1 v2 xs ys, vs = [v1, v2] ∧ KdV K H1 v1 xs fun k1 => KdV K H1 v2 ys fun k2 => R (JZ K k1 k2) H1
theorem pi_z {X : Cx} {e e2 : Expr} {ta : TA} {p pos tpos : Pos} {elts : List Expr} {kk : Nat} (hg : Gl X "zip") (hm : X.mg "zip" = none) (ha : PA X [e, e2] ta)
    (hs : starEach [e, e2] X.env = (false, eval e X.env) :: starEach [e2] X.env := by rfl) (hpl : (backTo pos (starEach [e2] X.env)).any (·.1) = false := by rfl) :
    PI X (.Tuple elts kk tpos) (.Call (.Name "zip" p) [e, e2] [] pos) (iZ X.K ta) := by
  refine ⟨fun pins s σ H R I h => ?_⟩
  refine Call_ (ld_blt I hg hm PyProof.Rows.boot_zip (PyProof.Rows.callWith_type1 (thn (ha.run pos pins s σ H _ I h) fun us s1 ⟨vs, H1, I1, r1, q1⟩ => ?_) hs hpl))
  obtain ⟨v1, v2, xs, ys, ex, q⟩ := q1
  subst ex
  obtain ⟨u1, u2, eu, ru1, ru2⟩ := vals2 r1
  subst eu
  obtain ⟨k1, ek1, hqx, q⟩ := q.of ru1
  obtain ⟨k2, ek2, hqy, q⟩ := q.of ru2
  subst ek1 ek2
  obtain ⟨Hk1, B1, b1⟩ := Kd.begins I1 hqx
  obtain ⟨Hk2, B2, b2⟩ := Kd.begins I1 hqy
  refine zip_begins2 B1 B2 b1 b2 fun h' hz hTI hTO h1 h2 hsz hk => wpAny_pyIter_zip hz ?_
  have I2 : Inv X pins σ H1 { s1 with heap := h' } := I1.kept (t' := s1.toks) hk
  have f1 : ∀ b ∈ k1.fp s1.heap.objs.size, b ≤ s1.heap.objs.size := fun b hb => by
    rcases Kd.fp_old hb with z | z
    · rw [z]; exact Nat.le_refl _
    · exact Nat.le_of_lt (Kd.lt I1 hqx z)
  have f2 : ∀ b ∈ k2.fp (s1.heap.objs.size + 1), b < s1.heap.objs.size ∨ b = s1.heap.objs.size + 1 := fun b hb => by
    rcases Kd.fp_old hb with z | z
    · exact .inr z
    · exact .inl (Kd.lt I1 hqy z)
  have nn : ∀ (a b : Nat), (a : Nat) ≠ b → (show Addr from a) ≠ b := fun a b h => h
  have S : ZipSep2 (s1.heap.objs.size + 4) (s1.heap.objs.size + 2) (s1.heap.objs.size + 3) s1.heap.objs.size (s1.heap.objs.size + 1) (k1.fp s1.heap.objs.size) (k2.fp (s1.heap.objs.size + 1)) := by
    generalize s1.heap.objs.size = n at f1 f2
    refine ⟨nn _ _ (by omega), nn _ _ (by omega), nn _ _ (by omega), nn _ _ (by omega), Kd.it_mem _ _, fun hb => ?_, fun hb => ?_, nn _ _ (by omega), Kd.it_mem _ _, fun hb => ?_, fun hb => ?_, fun hb => ?_, fun hb => ?_⟩
    · have q : (n + 4 : Nat) ≤ n := f1 _ hb
      omega
    · have q : (n + 3 : Nat) ≤ n := f1 _ hb
      omega
    · have q : (n + 4 : Nat) < n ∨ (n + 4 : Nat) = n + 1 := f2 _ hb
      omega
    · have q : (n + 3 : Nat) < n ∨ (n + 3 : Nat) = n + 1 := f2 _ hb
      omega
    · have q : (n : Nat) < n ∨ (n : Nat) = n + 1 := f2 _ hb
      omega
    · have q : (n + 1 : Nat) ≤ n := f1 _ hb
      omega
  refine ⟨s1.heap.objs.size + 4, [s1.heap.objs.size + 4, s1.heap.objs.size + 2, s1.heap.objs.size + 3, s1.heap.objs.size, s1.heap.objs.size + 1], _, _, H1, rfl, I2, turn_z k1 k2 S, ⟨hz, hTI, ⟨_, _, hTO⟩, Kd.first h1 fun a e => Nat.ne_of_lt (Kd.lt I1 hqx e), Kd.first h2 fun a e => Nat.ne_of_lt (Nat.lt_succ_of_lt (Kd.lt I1 hqy e))⟩, fun c hcm => ?_, q⟩
  have e' : c = s1.heap.objs.size + 4 ∨ c = s1.heap.objs.size + 2 ∨ c = s1.heap.objs.size + 3 ∨ c = s1.heap.objs.size ∨ c = s1.heap.objs.size + 1 := by simpa using hcm
  have hle : s1.heap.objs.size ≤ c := by
    rcases e' with z | z | z | z | z
    · rw [z]; exact Nat.le_add_right _ _
    · rw [z]; exact Nat.le_add_right _ _
    · rw [z]; exact Nat.le_add_right _ _
    · rw [z]; exact Nat.le_refl _
    · rw [z]; exact Nat.le_add_right _ _
  exact I1.fpOk hle (I1.hok.fresh hle)

/-! ### enumerate -/
def JE (K : PySem.W.Frag) (k1 : Kd) : It :=
  ⟨fun i H => ∃ (xs : List V) (x : V), k1.its K H xs ∧ xs[i]? = some x,
    fun i H v H' => ∃ T x, v = .ref T ∧ H T = none ∧ H' = upd H T (.tup [.int (i : Nat), x]) ∧ ∀ xs, k1.its K H xs → xs[i]? = some x,
    fun i H => ∃ xs : List V, k1.its K H xs ∧ i = xs.length⟩
theorem turn_e {P : Program} {w : World} {K : PySem.W.Frag} {elts : List Expr} {kk : Nat} {tpos : Pos} {e it : Addr} (k1 : Kd) (hei : e ≠ it) (hef : e ∉ k1.fp it) :
    Turn P w K (.Tuple elts kk tpos) (JE K k1) [e, it] e (fun i h => (∃ old, IsEnum h e it (0 + ((i : Nat) : Int)) old) ∧ k1.tn it i h) where
  mem := by simp
  obj := fun i h st b hb => by
    obtain ⟨⟨old, he⟩, h1⟩ := st
    have e' : b = e ∨ b = it := by simpa using hb
    rcases e' with z | z
    · rw [z]; exact ⟨_, he, fun v q => nomatch q⟩
    · rw [z]; exact (Kd.live (kd := k1) h1)
  keep := fun i h h' st k => let ⟨⟨old, he⟩, h1⟩ := st; ⟨⟨old, k e (by simp) _ he⟩, Kd.keep (kd := k1) h1 (k it (by simp))⟩
  item := by
    intro X hP hw hK hc i pins s σ H E I hf st hg
    subst hP hw hK
    obtain ⟨hen, h1⟩ := st
    obtain ⟨xs, x, hqx, hx⟩ := hg
    obtain ⟨n1, P1, St1, D1, e1, p1, q1, r1⟩ := Kd.draws I hqx (P := X.prog) (w := X.w) (A := X.A.in1) (I.ok.hd hc) it h1
    have hi1 : i < xs.length := (List.getElem?_eq_some_iff.mp hx).1
    refine wpAny_mono ((GoesN.enumFrom (A := X.A) (elts := elts) (x1 := kk) (pos := tpos) 0 D1 e hei hef (Kd.it_mem _ _)).goes i s _ E (by omega) ⟨hen, q1⟩ fun v h' tk hY hst hk htk => ?_) (fun r s1 h => h) fun _ _ h => h
    obtain ⟨T, t0, u1, ev, hT, hp1, hTup⟩ := hY
    subst ev
    obtain ⟨y1, g1, ru1⟩ := p1 i u1 hp1
    rw [hx] at g1; cases g1
    have new : ObjOk X.prog X.w (upd H T (.tup [.int (i : Nat), x])) h' T (.tup [.int (i : Nat), x]) := ⟨by show 2 ≤ sizeLine; decide, [.int (0 + (i : Int)) t0, u1], .cons ⟨t0, by rw [Int.zero_add]⟩ (.cons ru1 .nil), hTup⟩
    have I1 : Inv X pins σ (upd H T (.tup [.int (i : Nat), x])) { s with heap := h', toks := tk } := I.turnedNew (ch := [e, it]) (fun c o hb q => hk c o hb q) hf hT new
    refine ⟨.ref T, _, I1, rfl, ⟨T, x, rfl, I.hok.fresh hT, rfl, fun l hl => by rw [Kd.inj I hl hqx]; exact hx⟩, ⟨hst.1, r1 _ _ hst.2⟩, fun c hcm => ?_⟩
    have hlt : c < s.heap.objs.size := by
      have e' : c = e ∨ c = it := by simpa using hcm
      obtain ⟨old, he⟩ := hen
      rcases e' with q | q
      · rw [q]; exact Heap.lt_size he
      · rw [q]; obtain ⟨_, e1, _⟩ := (Kd.live (kd := k1) h1); exact Heap.lt_size e1
    rw [upd_ne (Nat.ne_of_lt (Nat.lt_of_lt_of_le hlt hT))]
    exact (hf c hcm).1
  done := by
    intro X hP hw hK hc i pins s σ H E I hf st hg
    subst hP hw hK
    obtain ⟨hen, h1⟩ := st
    obtain ⟨xs, hqx, hend⟩ := hg
    obtain ⟨n1, P1, St1, D1, e1, p1, q1, r1⟩ := Kd.draws I hqx (P := X.prog) (w := X.w) (A := X.A.in1) (I.ok.hd hc) it h1
    have en : i = n1 := by rw [e1]; exact hend
    subst en
    refine (GoesN.enumFrom (A := X.A) (elts := elts) (x1 := kk) (pos := tpos) 0 D1 e hei hef (Kd.it_mem _ _)).stops s _ E ⟨hen, q1⟩ fun h' tk hk htk => ?_
    exact I.turnedL (ch := [e, it]) (fun c o hb q => hk c o hb q) hf
  self := fun A i s Q E st h => let ⟨⟨_, he⟩, _⟩ := st; wpAny_pyIter_enum he h
def iE (K : PySem.W.Frag) (ta : TA) : TI := fun σ H R => ta σ H fun vs H1 => ∃ v1 xs, vs = [v1] ∧ KdV K H1 v1 xs fun k1 => R (JE K k1) H1
set_option maxHeartbeats 1000000 in
theorem meets_enum1 {v : Value} {o : Obj} {H : Heap → Prop} (B : Begins v o H) :
    Meets (Builtin.«enumerate.__new__» ⟨[.type "enumerate", v], []⟩) (fun _ R s => H s.heap ∧
      R (.ok (.ret (.ref (s.heap.push o).objs.size))) { s with heap := (s.heap.push o).push { cls := .type "enumerate", data := .fields #[.none, .bool false, .ref s.heap.objs.size, rawInt 0, .none, .none] } }) :=
  .of_wp fun prog w A R s h => by
    obtain ⟨hp, g, d, tk, os⟩ := s; obtain ⟨h1, h⟩ := h
    have hsub := sub_enumerate
    have q1 : ∀ {A' : Around} {E : Value → Shared → Prop} {Q : Value → Shared → Prop}, Q (.ref hp.objs.size) ⟨hp.push o, g, d, tk, os⟩ → wpAny (model prog w) A' (pyIter v) Q E ⟨hp, g, d, tk, os⟩ :=
      fun q => B.iter prog w _ _ ⟨hp, g, d, tk, os⟩ _ h1 q
    wp_walk using q1
    refine wpAny_stack_any fun st => wpAny_pure ?_
    split
    · rename_i c _ _ _ _ _
      cases (c == Value.type "enumerate")
      · wp_walk using q1
        exact ⟨_, rfl, h⟩
      · wp_walk using q1
        exact ⟨_, rfl, h⟩
    · wp_walk using q1
      exact ⟨_, rfl, h⟩
theorem call_enum1 {prog : Program} {w : World} {A : Around} {E : Value → Shared → Prop} {s : Shared} {v : Value} {o : Obj} {Hk : Heap → Prop} {Q : Value → Shared → Prop} (B : Begins v o Hk) (h1 : Hk s.heap)
    (h : ∀ h', IsEnum h' (s.heap.objs.size + 1) s.heap.objs.size 0 .none → h'.get? s.heap.objs.size = some o → h'.objs.size = s.heap.objs.size + 2 →
      (∀ b o, s.heap.get? b = some o → h'.get? b = some o) → Q (.ref (s.heap.objs.size + 1)) { s with heap := h' }) :
    wpAny (model prog w) A (call (.type "enumerate") [v]) Q E s := by
  refine callType_new F.called_enumerate (by decide) (F.typeCall_enumerate_1 _) (F.newCall_enumerate_1 _) (fun obj => F.args_object_init_2 obj _) F.entry_enumerate_new
    (meets_enum1 B) ⟨h1, ?_⟩
  have hz : (s.heap.push o).objs.size = s.heap.objs.size + 1 := Heap.size_push ..
  show _ ∧ _
  rw [hz]
  have he : IsEnum ((s.heap.push o).push { cls := .type "enumerate", data := .fields #[.none, .bool false, .ref s.heap.objs.size, rawInt 0, .none, .none] }) (s.heap.objs.size + 1) s.heap.objs.size 0 .none := by
    have := Heap.get?_push_size (s.heap.push o) (o := { cls := .type "enumerate", data := .fields #[.none, .bool false, .ref s.heap.objs.size, rawInt 0, .none, .none] }) rfl
    rw [hz] at this; exact this
  refine ⟨⟨_, he, rfl⟩, h _ he (Heap.get?_push_of_some _ (Heap.get?_push_size _ B.free)) (by rw [Heap.size_push, hz]) fun b o x => Heap.get?_push_of_some _ (Heap.get?_push_of_some _ x)⟩
theorem pi_e {X : Cx} {e : Expr} {ta : TA} {p pos tpos : Pos} {elts : List Expr} {kk : Nat} (hg : Gl X "enumerate") (hm : X.mg "enumerate" = none) (ha : PA X [e] ta) (hs : starEach [e] X.env = [(false, eval e X.env)] := by rfl) :
    PI X (.Tuple elts kk tpos) (.Call (.Name "enumerate" p) [e] [] pos) (iE X.K ta) := by
  refine ⟨fun pins s σ H R I h => ?_⟩
  refine Call_ (ld_blt I hg hm boot_enumerate (PyProof.Rows.callWith_type1 (thn (ha.run pos pins s σ H _ I h) fun us s1 ⟨vs, H1, I1, r1, q1⟩ => ?_) hs rfl))
  obtain ⟨v1, xs, ex, q⟩ := q1
  subst ex
  obtain ⟨u1, eu, ru1⟩ := vals1 r1
  subst eu
  obtain ⟨k1, ek1, hqx, q⟩ := q.of ru1
  subst ek1
  obtain ⟨Hk1, B1, b1⟩ := Kd.begins I1 hqx
  refine call_enum1 B1 b1 fun h' he hit hsz hk => wpAny_pyIter_enum he ?_
  have I2 : Inv X pins σ H1 { s1 with heap := h' } := I1.kept (t' := s1.toks) hk
  have nf : s1.heap.objs.size + 1 ∉ k1.fp s1.heap.objs.size := fun hb => by
    rcases Kd.fp_old hb with z | z
    · exact absurd z (Nat.succ_ne_self _)
    · exact absurd (Kd.lt I1 hqx z) (by show ¬ (s1.heap.objs.size + 1 < s1.heap.objs.size); omega)
  refine ⟨s1.heap.objs.size + 1, [s1.heap.objs.size + 1, s1.heap.objs.size], _, _, H1, rfl, I2, turn_e k1 (Nat.succ_ne_self _) nf, ⟨⟨.none, he⟩, Kd.first hit fun a e => Nat.ne_of_lt (Kd.lt I1 hqx e)⟩, fun b hb => ?_, q⟩
  have e' : b = s1.heap.objs.size + 1 ∨ b = s1.heap.objs.size := by simpa using hb
  have hle : s1.heap.objs.size ≤ b := by
    rcases e' with z | z
    · rw [z]; exact Nat.le_add_right _ _
    · rw [z]; exact Nat.le_refl _
  exact I1.fpOk hle (I1.hok.fresh hle)
end Sm

set_option Elab.async false
set_option linter.all false
set_option maxRecDepth 100000
set_option maxHeartbeats 4000000
namespace Sm
open PySem PySem.Spec PyProof.Rows L2
section
variable {P : Program} {w : World} {K : PySem.W.Frag} {mg : Str → Option Value} {base : Heap} {N : List Str} {sc : Scope} {fn : Str → Bool} {k : Nat} {M : Fm P w K mg base N sc fn k}
variable {S : Type} {O : S → Res} {Γ : Asrt} {s : S} {α β γ ρ : Type} {ra : RP α} {rb : RP β} {A : ρ → VA}

/-! ### numbers and texts -/
theorem o_i0 {g : Int → Int → Int} : Op2 (rI0 fun i j => .int (g i j)) pI pI (fz pI) (fun x y k => k (g x y)) :=
  fun O HI Γ s σ F H x y u v C Q st rx ry hq hc => ⟨x, y, rx, ry, hq _ _ F H hc (Same.refl _) (st.val rfl)⟩
theorem o_iC {Cn : Int → Int → Prop} {g : Int → Int → Int} : Op2 (rI Cn fun i j => .int (g i j)) pI pI (fz pI) (fun x y k => Cn x y ∧ k (g x y)) :=
  fun O HI Γ s σ F H x y u v C Q st rx ry hq hc => ⟨x, y, rx, ry, hc.1, hq _ _ F H hc.2 (Same.refl _) (st.val rfl)⟩
theorem o_b0 {g : Int → Int → Bool} : Op2 (rI0 fun i j => .bl (g i j)) pI pI (fz pB) (fun x y k => k (g x y)) :=
  fun O HI Γ s σ F H x y u v C Q st rx ry hq hc => ⟨x, y, rx, ry, hq _ _ F H hc (Same.refl _) (st.val rfl)⟩
theorem o_u {g : Int → Int} : Op1 (rU fun i => .int (g i)) pI (fz pI) (fun x k => k (g x)) :=
  fun O HI Γ s σ F H x u C Q st rx hq hc => ⟨x, rx, hq _ _ F H hc (Same.refl _) (st.val rfl)⟩
theorem o_addT : Op2 (fun x y H Q => ∃ i j, x = .str i ∧ y = .str j ∧ i.length + j.length ≤ sizeLine ∧ Q (.str (i ++ j)) H) pT pT (fz pT) (fun x y k => x.length + y.length ≤ sizeLine ∧ k (x ++ y)) :=
  fun O HI Γ s σ F H x y u v C Q st rx ry hq hc => ⟨⟨x.toArray⟩, ⟨y.toArray⟩, rx.1, ry.1, hc.1, hq _ _ F H hc.2 (Same.refl _) (st.val ⟨by
    show V.str _ = V.str _
    congr 1
    exact TL.ext_tl (by rw [TL.tl_append]), rx.2.append ry.2⟩)⟩
section
variable {a b : Expr} {pos : Pos} {wa : (Int → S → Prop) → Prop} {wb : S → (Int → S → Prop) → Prop} (ha : XE M O Γ s a (fz pI) wa) (hb : ∀ s', XE M O Γ s' b (fz pI) (wb s'))
include ha hb
theorem xe_add : XE M O Γ s (.BinOp a .Add b pos) (fz pI) (fun k => wa fun x s1 => wb s1 fun y s2 => k (x + y) s2) := xe_bin (fun _ => op_add) o_i0 ha hb
theorem xe_sub : XE M O Γ s (.BinOp a .Sub b pos) (fz pI) (fun k => wa fun x s1 => wb s1 fun y s2 => k (x - y) s2) := xe_bin (fun _ => op_sub) o_i0 ha hb
theorem xe_mul : XE M O Γ s (.BinOp a .Mult b pos) (fz pI) (fun k => wa fun x s1 => wb s1 fun y s2 => CMul x y ∧ k (x * y) s2) := xe_bin (fun _ => op_mul) o_iC ha hb
theorem xe_fdiv : XE M O Γ s (.BinOp a .FloorDiv b pos) (fz pI) (fun k => wa fun x s1 => wb s1 fun y s2 => CDiv x y ∧ k (x / y) s2) := xe_bin (fun _ => op_fdiv) o_iC ha hb
theorem xe_mod : XE M O Γ s (.BinOp a .Mod b pos) (fz pI) (fun k => wa fun x s1 => wb s1 fun y s2 => 0 < y ∧ k (x % y) s2) := xe_bin (fun _ => op_mod) o_iC ha hb
theorem xe_pow : XE M O Γ s (.BinOp a .Pow b pos) (fz pI) (fun k => wa fun x s1 => wb s1 fun y s2 => CPow x y ∧ k (x ^ y.toNat) s2) := xe_bin (fun _ => op_pow) o_iC ha hb
theorem xe_shl : XE M O Γ s (.BinOp a .LShift b pos) (fz pI) (fun k => wa fun x s1 => wb s1 fun y s2 => CPow x y ∧ k (x * 2 ^ y.toNat) s2) := xe_bin (fun _ => op_shl) o_iC ha hb
theorem xe_shr : XE M O Γ s (.BinOp a .RShift b pos) (fz pI) (fun k => wa fun x s1 => wb s1 fun y s2 => 0 ≤ y ∧ k (x / 2 ^ y.toNat) s2) := xe_bin (fun _ => op_shr) o_iC ha hb
theorem xe_band : XE M O Γ s (.BinOp a .BitAnd b pos) (fz pI) (fun k => wa fun x s1 => wb s1 fun y s2 => k (Builtin.bitAnd x y) s2) := xe_bin (fun _ => op_and) o_i0 ha hb
theorem xe_bor : XE M O Γ s (.BinOp a .BitOr b pos) (fz pI) (fun k => wa fun x s1 => wb s1 fun y s2 => k (Builtin.bitOr x y) s2) := xe_bin (fun _ => op_or) o_i0 ha hb
theorem xe_bxor : XE M O Γ s (.BinOp a .BitXor b pos) (fz pI) (fun k => wa fun x s1 => wb s1 fun y s2 => k (Builtin.bitXor x y) s2) := xe_bin (fun _ => op_xor) o_i0 ha hb
theorem xc_lt : XC M O Γ s .Lt a b (fun k => wa fun x s1 => wb s1 fun y s2 => k (decide (x < y)) s2) := xc_op (fun _ => op_lt) o_b0 ha hb
theorem xc_le : XC M O Γ s .LtE a b (fun k => wa fun x s1 => wb s1 fun y s2 => k (decide (x ≤ y)) s2) := xc_op (fun _ => op_le) o_b0 ha hb
theorem xc_gt : XC M O Γ s .Gt a b (fun k => wa fun x s1 => wb s1 fun y s2 => k (decide (y < x)) s2) := xc_op (fun _ => op_gt) o_b0 ha hb
theorem xc_ge : XC M O Γ s .GtE a b (fun k => wa fun x s1 => wb s1 fun y s2 => k (decide (y ≤ x)) s2) := xc_op (fun _ => op_ge) o_b0 ha hb
end
theorem xe_neg {a : Expr} {pos : Pos} {wa : (Int → S → Prop) → Prop} (ha : XE M O Γ s a (fz pI) wa) : XE M O Γ s (.UnaryOp .USub a pos) (fz pI) (fun k => wa fun x s1 => k (-x) s1) := xe_un (fun _ => un_neg) o_u ha
theorem xe_addT {a b : Expr} {pos : Pos} {wa : (Text → S → Prop) → Prop} {wb : S → (Text → S → Prop) → Prop} (ha : XE M O Γ s a (fz pT) wa) (hb : ∀ s', XE M O Γ s' b (fz pT) (wb s')) :
    XE M O Γ s (.BinOp a .Add b pos) (fz pT) (fun k => wa fun x s1 => wb s1 fun y s2 => x.length + y.length ≤ sizeLine ∧ k (x ++ y) s2) := xe_bin (fun _ => op_add_str) o_addT ha hb

/-! ### == of data -/
/-- things of this kind are data that == tells apart as Lean does -/
structure Dat (K : PySem.W.Frag) {α : Type} [DecidableEq α] (r : RP α) where
  d : α → PyData
  n : Nat
  dp : ∀ {x v F H}, Same F H → r.r x v F → Dp K H v (d x) ∧ (d x).canLay0 = true
  dep : ∀ x, (d x).depth ≤ n
  eq : ∀ x y, PyData.eqv (d x) (d y) = decide (x = y)
theorem Dat.sh [DecidableEq α] (D : Dat K ra) (hn : D.n ≤ 64) {x : α} (h : (D.d x).canLay0 = true) : SeqAt.shaped (D.d x) = true := by
  unfold SeqAt.shaped
  rw [h, Bool.true_and]
  exact decide_eq_true (Nat.le_trans (D.dep x) hn)
theorem o_eqD [DecidableEq α] (D : Dat K ra) (hn : D.n ≤ 64) : Op2 (rEqD K) ra ra (fz pB) (fun x y k => k (eqB x y)) :=
  fun O HI Γ s σ F H x y u v C Q st rx ry hq hc => ⟨D.d x, D.d y, (D.dp st.ok rx).1, (D.dp st.ok ry).1, D.sh hn (D.dp st.ok rx).2, D.sh hn (D.dp st.ok ry).2, by rw [D.eq]; exact hq _ _ F H hc (Same.refl _) (st.val rfl)⟩
theorem o_neD [DecidableEq α] (D : Dat K ra) (hn : D.n ≤ 64) : Op2 (rNeD K) ra ra (fz pB) (fun x y k => k (!eqB x y)) :=
  fun O HI Γ s σ F H x y u v C Q st rx ry hq hc => ⟨D.d x, D.d y, (D.dp st.ok rx).1, (D.dp st.ok ry).1, D.sh hn (D.dp st.ok rx).2, D.sh hn (D.dp st.ok ry).2, by rw [D.eq]; exact hq _ _ F H hc (Same.refl _) (st.val rfl)⟩
section
variable {a b : Expr} {wa : (α → S → Prop) → Prop} {wb : S → (α → S → Prop) → Prop}
theorem xc_eq [DecidableEq α] (D : Dat K ra) (ha : XE M O Γ s a (fz ra) wa) (hb : ∀ s', XE M O Γ s' b (fz ra) (wb s')) (hn : D.n ≤ 64 := by exact Nat.le_of_ble_eq_true rfl) : XC M O Γ s .Eq a b (fun k => wa fun x s1 => wb s1 fun y s2 => k (eqB x y) s2) :=
  xc_op (fun i => by have h := op_eqD (X := M.X i) (M.room i).units; rw [M.kf i] at h; exact h) (o_eqD D hn) ha hb
theorem xc_ne [DecidableEq α] (D : Dat K ra) (ha : XE M O Γ s a (fz ra) wa) (hb : ∀ s', XE M O Γ s' b (fz ra) (wb s')) (hn : D.n ≤ 64 := by exact Nat.le_of_ble_eq_true rfl) : XC M O Γ s .NotEq a b (fun k => wa fun x s1 => wb s1 fun y s2 => k (!eqB x y) s2) :=
  xc_op (fun i => by have h := op_neD (X := M.X i) (M.room i).units; rw [M.kf i] at h; exact h) (o_neD D hn) ha hb
end
def dI : Dat K pI := ⟨.int, 0, fun _ r => by cases r; exact ⟨.int _, by simp [PyData.canLay0]⟩, fun _ => by simp [PyData.depth], fun x y => by simp only [PyData.eqv]; exact Bool.beq_eq_decide_eq _ _⟩
def dB : Dat K pB := ⟨.bool, 0, fun _ r => by cases r; exact ⟨.bl _, by simp [PyData.canLay0]⟩, fun _ => by simp [PyData.depth], fun x y => by simp only [PyData.eqv]; exact Bool.beq_eq_decide_eq _ _⟩
def dN : Dat K pN := ⟨fun _ => .none, 0, fun _ r => by cases r; exact ⟨.non, by simp [PyData.canLay0]⟩, fun _ => by simp [PyData.depth], fun x y => by simp [PyData.eqv]⟩
def dT : Dat K pT := ⟨fun x => .str ⟨x.toArray⟩, 0, fun _ r => by
    obtain ⟨e, o⟩ := r
    subst e
    refine ⟨.str _, ?_⟩
    simp only [PyData.canLay0, PyData.strOk]
    simpa using o, fun _ => by simp [PyData.depth], fun x y => by
  simp only [PyData.eqv]
  rw [Bool.eq_iff_iff]
  simp⟩
theorem all_dp {d : α → PyData} {F H : Hp} (h : ∀ {x v}, ra.r x v F → Dp K H v (d x) ∧ (d x).canLay0 = true) : ∀ {xs : List α} {vs : List V}, All2 (fun x v => ra.r x v F) xs vs → DpAll K H vs (xs.map d) ∧ PyData.canLayAll0 (xs.map d) = true
  | [], [], _ => ⟨.nil, rfl⟩
  | x :: xs, v :: vs, ⟨a, b⟩ => by
    obtain ⟨h1, h2⟩ := h a
    obtain ⟨h3, h4⟩ := all_dp h b
    refine ⟨.cons h1 h3, ?_⟩
    rw [List.map_cons]
    simp [PyData.canLayAll0, h2, h4]
theorem depAll {d : α → PyData} {n : Nat} (h : ∀ x, (d x).depth ≤ n) : ∀ xs : List α, PyData.depthAll (xs.map d) ≤ n
  | [] => by simp [PyData.depthAll]
  | x :: xs => by
    rw [List.map_cons]
    simp only [PyData.depthAll]
    exact Nat.max_le.mpr ⟨h x, depAll h xs⟩
theorem eqAll [DecidableEq α] {d : α → PyData} (h : ∀ x y, PyData.eqv (d x) (d y) = decide (x = y)) : ∀ xs ys : List α, PyData.eqvAll (xs.map d) (ys.map d) = decide (xs = ys)
  | [], [] => by simp [PyData.eqvAll]
  | x :: xs, [] => by simp [PyData.eqvAll]
  | [], y :: ys => by simp [PyData.eqvAll]
  | x :: xs, y :: ys => by
    simp only [List.map_cons, PyData.eqvAll]
    rw [h, eqAll h xs ys, Bool.eq_iff_iff]
    simp
def dL [DecidableEq α] (D : Dat K ra) : Dat K (pL K ra) := ⟨fun xs => .list (xs.map D.d), D.n + 1, fun {x v F H} e ⟨a, vs, h1, h2, h3⟩ => by
    obtain ⟨q1, q2⟩ := all_dp (d := D.d) (H := H) (fun q => D.dp e q) h3
    subst h1
    exact ⟨.lst (e.seq h2) q1, by simp only [PyData.canLay0]; exact q2⟩,
  fun x => by simp only [PyData.depth]; exact Nat.add_le_add_right (depAll D.dep x) 1, fun x y => by simp only [PyData.eqv]; exact eqAll D.eq x y⟩
def dU [DecidableEq α] (D : Dat K ra) : Dat K (pU K ra) := ⟨fun xs => .tuple (xs.map D.d), D.n + 1, fun {x v F H} e ⟨a, vs, h1, h2, h3⟩ => by
    obtain ⟨q1, q2⟩ := all_dp (d := D.d) (H := H) (fun q => D.dp e q) h3
    subst h1
    exact ⟨.tup (SqT.mono e h2) q1, by simp only [PyData.canLay0]; exact q2⟩,
  fun x => by simp only [PyData.depth]; exact Nat.add_le_add_right (depAll D.dep x) 1, fun x y => by simp only [PyData.eqv]; exact eqAll D.eq x y⟩
def dP [DecidableEq α] [DecidableEq β] (D : Dat K ra) (E : Dat K rb) : Dat K (pP K ra rb) := ⟨fun x => .tuple [D.d x.1, E.d x.2], max D.n E.n + 1, fun {x v F H} e ⟨a, u1, u2, h1, h2, h3, h4⟩ => by
    obtain ⟨q1, q2⟩ := D.dp e h3
    obtain ⟨q3, q4⟩ := E.dp e h4
    subst h1
    exact ⟨.tup (SqT.mono e h2) (.cons q1 (.cons q3 .nil)), by simp [PyData.canLay0, PyData.canLayAll0, q2, q4]⟩,
  fun x => by have h1 := D.dep x.1; have h2 := E.dep x.2; simp only [PyData.depth, PyData.depthAll]; omega, fun x y => by
    obtain ⟨x1, x2⟩ := x
    obtain ⟨y1, y2⟩ := y
    simp only [PyData.eqv, PyData.eqvAll]
    rw [D.eq, E.eq, Bool.eq_iff_iff]
    simp⟩
def dP3 {γ : Type} {rc : RP γ} [DecidableEq α] [DecidableEq β] [DecidableEq γ] (D : Dat K ra) (E : Dat K rb) (G : Dat K rc) : Dat K (pP3 K ra rb rc) := ⟨fun x => .tuple [D.d x.1, E.d x.2.1, G.d x.2.2], max (max D.n E.n) G.n + 1, fun {x v F H} e ⟨a, u1, u2, u3, h1, h2, h3, h4, h5⟩ => by
    obtain ⟨q1, q2⟩ := D.dp e h3
    obtain ⟨q3, q4⟩ := E.dp e h4
    obtain ⟨q5, q6⟩ := G.dp e h5
    subst h1
    exact ⟨.tup (SqT.mono e h2) (.cons q1 (.cons q3 (.cons q5 .nil))), by simp [PyData.canLay0, PyData.canLayAll0, q2, q4, q6]⟩,
  fun x => by have h1 := D.dep x.1; have h2 := E.dep x.2.1; have h3 := G.dep x.2.2; simp only [PyData.depth, PyData.depthAll]; omega, fun x y => by
    obtain ⟨x1, x2, x3⟩ := x
    obtain ⟨y1, y2, y3⟩ := y
    simp only [PyData.eqv, PyData.eqvAll]
    rw [D.eq, E.eq, G.eq, Bool.eq_iff_iff]
    simp⟩
def dO [DecidableEq α] (D : Dat K ra) (nn : ∀ x, PyData.eqv .none (D.d x) = false ∧ PyData.eqv (D.d x) .none = false := by intro x; exact ⟨rfl, rfl⟩) : Dat K (pO ra) := ⟨fun x => match x with | none => .none | some y => D.d y, D.n, fun {x v F H} e h => by
    cases x with
    | none =>
      have h : v = .non := h
      subst h
      exact ⟨.non, by simp [PyData.canLay0]⟩
    | some y => exact D.dp e h.2,
  fun x => by cases x with | none => simp [PyData.depth] | some y => exact D.dep y, fun x y => by
    cases x with
    | none =>
      cases y with
      | none => simp [PyData.eqv]
      | some z => simp [(nn z).1]
    | some u =>
      cases y with
      | none => simp [(nn u).2]
      | some z => simp only [D.eq]; rw [Bool.eq_iff_iff]; simp⟩
end
end Sm

set_option Elab.async false
set_option linter.all false
set_option maxRecDepth 100000
set_option maxHeartbeats 4000000
namespace Sm
open PySem PySem.Spec PyProof.Rows L2
/-- no star: an argument as it stands -/
def GlN (sc : Scope) (x : Str) : Prop := sc.names.lookup x = some .globalImplicit
def NoStar (e : Expr) : Prop := ∀ (es : List Expr) (env : Env), starEach (e :: es) env = (false, eval e env) :: starEach es env
section
variable {P : Program} {w : World} {K : PySem.W.Frag} {mg : Str → Option Value} {base : Heap} {N : List Str} {sc : Scope} {fn : Str → Bool} {k : Nat} {M : Fm P w K mg base N sc fn k}
variable {S : Type} {O : S → Res} {Γ : Asrt} {s : S} {α β γ ρ : Type} {ra : RP α} {rb : RP β} {rc : RP γ} {A : ρ → VA}

theorem Gl.of {x : Str} (h : GlN sc x) (i) : Gl (M.X i) x := by
  show (M.X i).env.scope.names.lookup x = _
  rw [M.scp]; exact h
theorem Fm.none (M : Fm P w K mg base N sc fn k) {x : Str} (h : mg x = none) (i) : (M.X i).mg x = none := by rw [M.mgl]; exact h

/-! ### lists of items; displays -/
def XL (M : Fm P w K mg base N sc fn k) (O : S → Res) (Γ : Asrt) (s : S) (es : List Expr) (r : RP α) (W : (List α → S → Prop) → Prop) : Prop :=
  ∀ (HI : Hp) (C : List α → S → Prop) (Q : List V → Hp → Prop) (σ : L2.St) (F H : Hp), Stt O HI Γ s σ F H →
    (∀ x s' vs F' H', C x s' → Same F F' → All2 (fun x v => r.r x v F') x vs → x.length = es.length → Stt O HI Γ s' σ F' H' → Q vs H') → W C → rdA M es σ H Q
theorem xl_nil : XL M O Γ s [] ra (fun k => k [] s) := by
  intro HI C Q σ F H st hq hc
  exact ⟨_, fun i => pa_nil, hq [] s [] F H hc (Same.refl _) trivial rfl st⟩
theorem xl_cons {e : Expr} {es : List Expr} {wa : (α → S → Prop) → Prop} {wr : S → (List α → S → Prop) → Prop} (ha : XE M O Γ s e (fz ra) wa) (hr : ∀ s', XL M O Γ s' es ra (wr s')) (hs : NoStar e := by intro _ _; rfl) :
    XL M O Γ s (e :: es) ra (fun k => wa fun x s1 => wr s1 fun xs s2 => k (x :: xs) s2) := by
  intro HI C Q σ F H st hq hc
  refine ⟨_, fun i => pa_cons (rdE_ok i) (rdA_ok i) (hs _ _), ha HI _ _ σ F H st (fun x s1 u F1 H1 c1 e1 sv1 => ?_) hc⟩
  obtain ⟨rx, st1⟩ := sv1.fz
  refine hr s1 HI _ _ σ F1 H1 st1 (fun xs s2 vs F2 H2 c2 e2 al hl st2 => ?_) c1
  exact hq (x :: xs) s2 (u :: vs) F2 H2 c2 (e1.trans e2) ⟨ra.mono e2 rx, al⟩ (congrArg (· + 1) hl) st2
theorem xe_lst {es : List Expr} {pos : Pos} {W : (List α → S → Prop) → Prop} (h : XL M O Γ s es ra W) (hz : es.length ≤ sizeLine := by decide) : XE M O Γ s (.List es pos) (ol ra) W := by
  intro HI C Q σ F H st hq hc
  refine ⟨_, fun i => pe_lst (rdA_ok i), h HI _ _ σ F H st (fun x s1 vs F1 H1 c1 e1 al hl st1 => ?_) hc⟩
  refine ⟨by rw [← al.length, hl]; exact hz, fun p hp => hq x s1 _ F1 _ c1 e1 (st1.newV hp ⟨p, vs, rfl, rfl, al⟩)⟩
theorem xe_tupU {es : List Expr} {x1 : Nat} {pos : Pos} {W : (List α → S → Prop) → Prop} (h : XL M O Γ s es ra W) (hz : es.length ≤ sizeLine := by decide) : XE M O Γ s (.Tuple es x1 pos) (fz (pU K ra)) W := by
  intro HI C Q σ F H st hq hc
  refine ⟨_, fun i => pe_tup (rdA_ok i), h HI _ _ σ F H st (fun x s1 vs F1 H1 c1 e1 al hl st1 => ?_) hc⟩
  refine ⟨by rw [← al.length, hl]; exact hz, fun p hp => ?_⟩
  obtain ⟨e2, st2⟩ := st1.newF (o := .tup vs) hp
  exact hq x s1 _ _ _ c1 (e1.trans e2) (st2.val ⟨p, vs, rfl, .inl (.inl upd_same), al.imp fun _ _ q => ra.mono e2 q⟩)
theorem xe_tup2 {a b : Expr} {x1 : Nat} {pos : Pos} {wa : (α → S → Prop) → Prop} {wb : S → (β → S → Prop) → Prop} (ha : XE M O Γ s a (fz ra) wa) (hb : ∀ s', XE M O Γ s' b (fz rb) (wb s')) (na : NoStar a := by intro _ _; rfl) (nb : NoStar b := by intro _ _; rfl) :
    XE M O Γ s (.Tuple [a, b] x1 pos) (fz (pP K ra rb)) (fun k => wa fun x s1 => wb s1 fun y s2 => k (x, y) s2) := by
  intro HI C Q σ F H st hq hc
  refine ⟨_, fun i => pe_tup (pa_cons (rdE_ok i) (pa_cons (rdE_ok i) pa_nil (nb _ _)) (na _ _)), ?_⟩
  refine two ha hb st (R := fun u v H2 => _) (fun x y s' u v F' H' c e rx ry st' => ?_) hc
  refine ⟨by show 2 ≤ sizeLine; decide, fun p hp => ?_⟩
  obtain ⟨e2, st2⟩ := st'.newF (o := .tup [u, v]) hp
  exact hq (x, y) s' _ _ _ c (e.trans e2) (st2.val ⟨p, u, v, rfl, .inl (.inl upd_same), ra.mono e2 rx, rb.mono e2 ry⟩)
theorem xe_tup3 {a b c : Expr} {x1 : Nat} {pos : Pos} {wa : (α → S → Prop) → Prop} {wb : S → (β → S → Prop) → Prop} {wc : S → (γ → S → Prop) → Prop} (ha : XE M O Γ s a (fz ra) wa) (hb : ∀ s', XE M O Γ s' b (fz rb) (wb s')) (hc : ∀ s', XE M O Γ s' c (fz rc) (wc s'))
    (na : NoStar a := by intro _ _; rfl) (nb : NoStar b := by intro _ _; rfl) (nc : NoStar c := by intro _ _; rfl) :
    XE M O Γ s (.Tuple [a, b, c] x1 pos) (fz (pP3 K ra rb rc)) (fun k => wa fun x s1 => wb s1 fun y s2 => wc s2 fun z s3 => k (x, y, z) s3) := by
  intro HI C Q σ F H st hq hw
  refine ⟨_, fun i => pe_tup (pa_cons (rdE_ok i) (pa_cons (rdE_ok i) (pa_cons (rdE_ok i) pa_nil (nc _ _)) (nb _ _)) (na _ _)), ?_⟩
  refine two ha hb st (R := fun u v H2 => _) (fun x y s' u v F' H' c e rx ry st' => ?_) hw
  refine hc s' HI _ _ σ F' H' st' (fun z s3 t F3 H3 c3 e3 sv3 => ?_) c
  obtain ⟨rz, st3⟩ := sv3.fz
  refine ⟨by show 3 ≤ sizeLine; decide, fun p hp => ?_⟩
  obtain ⟨e2, st4⟩ := st3.newF (o := .tup [u, v, t]) hp
  have e4 := e3.trans e2
  exact hq (x, y, z) s3 _ _ _ c3 (e.trans e4) (st4.val ⟨p, u, v, t, rfl, .inl (.inl upd_same), ra.mono e4 rx, rb.mono e4 ry, rc.mono e2 rz⟩)

/-! ### built-ins by name -/
theorem xe_cb1 {x : Str} {id : String} {p pos : Pos} {e : Expr} {r : List V → Hp → VK → Prop} {Wo : α → (ρ → Prop) → Prop} {wa : (α → S → Prop) → Prop} (hv : bootBuiltins x = some (.builtin id)) (hc : ∀ i, CallR (M.X i) (.builtin id) r) (hr : Op1 (fun u => r [u]) ra A Wo)
    (hm : mg x = none) (hg : GlN sc x) (ha : XE M O Γ s e (fz ra) wa) (hn : x ≠ "__name__" := by decide) (hdb : (x == ("__debug__" : Str)) = false := by decide) (hs : NoStar e := by intro _ _; rfl) :
    XE M O Γ s (.Call (.Name x p) [e] [] pos) A (fun k => wa fun a s1 => Wo a fun z => k z s1) := by
  intro HI C Q σ F H st hq hw
  refine ⟨_, fun i => pe_callB (hc i) (Gl.of hg i) (M.none hm i) hv (pa_cons (rdE_ok i) pa_nil (hs _ _)) hn hdb (hs _ _) rfl, ha HI _ _ σ F H st (fun a s1 u F1 H1 c1 e1 sv1 => ?_) hw⟩
  obtain ⟨rx, st1⟩ := sv1.fz
  exact hr O HI Γ s1 σ F1 H1 a u _ Q st1 rx (fun z v' F2 H2 c2 e2 sv => hq z s1 v' F2 H2 c2 (e1.trans e2) sv) c1
theorem xe_cb2 {x : Str} {id : String} {p pos : Pos} {e e2 : Expr} {r : List V → Hp → VK → Prop} {Wo : α → β → (ρ → Prop) → Prop} {wa : (α → S → Prop) → Prop} {wb : S → (β → S → Prop) → Prop} (hv : bootBuiltins x = some (.builtin id)) (hc : ∀ i, CallR (M.X i) (.builtin id) r) (hr : Op2 (fun u v => r [u, v]) ra rb A Wo)
    (hm : mg x = none) (hg : GlN sc x) (ha : XE M O Γ s e (fz ra) wa) (hb : ∀ s', XE M O Γ s' e2 (fz rb) (wb s')) (hn : x ≠ "__name__" := by decide) (hdb : (x == ("__debug__" : Str)) = false := by decide) (hs : NoStar e := by intro _ _; rfl) (hs2 : NoStar e2 := by intro _ _; rfl) :
    XE M O Γ s (.Call (.Name x p) [e, e2] [] pos) A (fun k => wa fun a s1 => wb s1 fun b s2 => Wo a b fun z => k z s2) := by
  intro HI C Q σ F H st hq hw
  refine ⟨_, fun i => pe_callB (hc i) (Gl.of hg i) (M.none hm i) hv (pa_cons (rdE_ok i) (pa_cons (rdE_ok i) pa_nil (hs2 _ _)) (hs _ _)) hn hdb (hs _ _) (by rw [hs2 [] (M.X i).env]; rfl), ?_⟩
  refine two ha hb st (R := fun u v H2 => _) (fun x y s' u v F' H' c e rx ry st' => ?_) hw
  exact hr O HI Γ s' σ F' H' x y u v _ Q st' rx ry (fun z v' F2 H2 c2 e2 sv => hq z s' v' F2 H2 c2 (e.trans e2) sv) c
theorem xe_ct1 {x : Str} {T : String} {p pos : Pos} {e : Expr} {r : List V → Hp → VK → Prop} {Wo : α → (ρ → Prop) → Prop} {wa : (α → S → Prop) → Prop} (hv : bootBuiltins x = some (.type T)) (hc : ∀ i, CallR (M.X i) (.type T) r) (hr : Op1 (fun u => r [u]) ra A Wo)
    (hm : mg x = none) (hg : GlN sc x) (ha : XE M O Γ s e (fz ra) wa) (hn : x ≠ "__name__" := by decide) (hdb : (x == ("__debug__" : Str)) = false := by decide) (hs : NoStar e := by intro _ _; rfl) :
    XE M O Γ s (.Call (.Name x p) [e] [] pos) A (fun k => wa fun a s1 => Wo a fun z => k z s1) := by
  intro HI C Q σ F H st hq hw
  refine ⟨_, fun i => pe_callTy (hc i) (Gl.of hg i) (M.none hm i) hv (pa_cons (rdE_ok i) pa_nil (hs _ _)) hn hdb (hs _ _) rfl, ha HI _ _ σ F H st (fun a s1 u F1 H1 c1 e1 sv1 => ?_) hw⟩
  obtain ⟨rx, st1⟩ := sv1.fz
  exact hr O HI Γ s1 σ F1 H1 a u _ Q st1 rx (fun z v' F2 H2 c2 e2 sv => hq z s1 v' F2 H2 c2 (e1.trans e2) sv) c1
theorem b_len : bootBuiltins "len" = some (.builtin "len") := by decide +kernel
theorem b_sum : bootBuiltins "sum" = some (.builtin "sum") := by decide +kernel
theorem b_abs : bootBuiltins "abs" = some (.builtin "abs") := by decide +kernel
theorem b_max : bootBuiltins "max" = some (.builtin "max") := by decide +kernel
theorem b_min : bootBuiltins "min" = some (.builtin "min") := by decide +kernel
theorem b_sorted : bootBuiltins "sorted" = some (.builtin "sorted") := by decide +kernel
theorem b_isinstance : bootBuiltins "isinstance" = some (.builtin "isinstance") := by decide +kernel
theorem b_int : bootBuiltins "int" = some (.type "int") := by decide +kernel
theorem b_str : bootBuiltins "str" = some (.type "str") := by decide +kernel
theorem b_tuple : bootBuiltins "tuple" = some (.type "tuple") := by decide +kernel
theorem b_list : bootBuiltins "list" = some (.type "list") := by decide +kernel
theorem b_bool : bootBuiltins "bool" = some (.type "bool") := by decide +kernel
theorem All2.at {p : α → V → Prop} {xs : List α} {vs : List V} {i : Int} {x : α} (h : All2 p xs vs) (e : atI xs i = some x) : ∃ v, atI vs i = some v ∧ p x v := by
  unfold atI at e ⊢
  rw [← h.length]
  cases q : ixN xs.length i with
  | none => rw [q] at e; cases e
  | some j => rw [q] at e; exact h.get e

/-- len -/
theorem o_lenL : Op1 (fun u => (fun xs H Q => ∃ p ys, xs = [.ref p] ∧ (SqL K H p ys ∨ SqT K H p ys) ∧ Q (.int ys.length) H : List V → Hp → VK → Prop) [u]) (pL K ra) (fz pI) (fun xs k => k (xs.length : Int)) :=
  fun O HI Γ s σ F H x u C Q st ⟨a, vs, h1, h2, h3⟩ hq hc => ⟨a, vs, by rw [h1], .inl (SqL.mono st.ok h2), hq _ _ F H hc (Same.refl _) (st.val (by rw [h3.length]; rfl))⟩
theorem o_lenU : Op1 (fun u => (fun xs H Q => ∃ p ys, xs = [.ref p] ∧ (SqL K H p ys ∨ SqT K H p ys) ∧ Q (.int ys.length) H : List V → Hp → VK → Prop) [u]) (pU K ra) (fz pI) (fun xs k => k (xs.length : Int)) :=
  fun O HI Γ s σ F H x u C Q st ⟨a, vs, h1, h2, h3⟩ hq hc => ⟨a, vs, by rw [h1], .inr (SqT.mono st.ok h2), hq _ _ F H hc (Same.refl _) (st.val (by rw [h3.length]; rfl))⟩
theorem o_lenT : Op1 (fun u => (fun xs H Q => ∃ z, xs = [.str z] ∧ z.length ≤ sizeLine ∧ Q (.int z.length) H : List V → Hp → VK → Prop) [u]) pT (fz pI) (fun x k => x.length ≤ sizeLine ∧ k (x.length : Int)) :=
  fun O HI Γ s σ F H x u C Q st h hq hc => ⟨⟨x.toArray⟩, by rw [h.1], hc.1, hq _ _ F H hc.2 (Same.refl _) (st.val rfl)⟩
theorem o_sum : Op1 (fun u => rSum K [u]) (pL K pI) (fz pI) (fun xs k => k xs.sum) :=
  fun O HI Γ s σ F H x u C Q st ⟨a, vs, h1, h2, h3⟩ hq hc => ⟨a, x, by rw [h1], by rw [← All2.map_eq (f := V.int) h3]; exact SqL.mono st.ok h2, hq _ _ F H hc (Same.refl _) (st.val rfl)⟩
theorem o_intB : Op1 (fun u => (fun xs H Q => (∃ i, xs = [.int i] ∧ Q (.int i) H) ∨ ∃ k, xs = [.bl k] ∧ Q (.int (if k then 1 else 0)) H : List V → Hp → VK → Prop) [u]) pB (fz pI) (fun x k => k (if x then 1 else 0)) :=
  fun O HI Γ s σ F H x u C Q st h hq hc => .inr ⟨x, by rw [show u = .bl x from h], hq _ _ F H hc (Same.refl _) (st.val rfl)⟩
theorem o_intI : Op1 (fun u => (fun xs H Q => (∃ i, xs = [.int i] ∧ Q (.int i) H) ∨ ∃ k, xs = [.bl k] ∧ Q (.int (if k then 1 else 0)) H : List V → Hp → VK → Prop) [u]) pI (fz pI) (fun x k => k x) :=
  fun O HI Γ s σ F H x u C Q st h hq hc => .inl ⟨x, by rw [show u = .int x from h], hq _ _ F H hc (Same.refl _) (st.val rfl)⟩
def strI (i : Int) : Text := (toString i).toList.map Char.toNat
theorem strI_ok (i : Int) : okT (strI i) := fun c hc => by
  obtain ⟨d, _, e⟩ := List.mem_map.mp hc
  subst e
  have h : d.val.toNat < 55296 ∨ (57343 < d.val.toNat ∧ d.val.toNat < 1114112) := d.valid
  show d.val.toNat < 1114112
  omega
theorem o_strI : Op1 (fun u => (fun xs H Q => ∃ i, xs = [.int i] ∧ i.natAbs.log2 < 1920 ∧ Q (.str (toString i)) H : List V → Hp → VK → Prop) [u]) pI (fz pT) (fun x k => x.natAbs.log2 < 1920 ∧ k (strI x)) :=
  fun O HI Γ s σ F H x u C Q st h hq hc => ⟨x, by rw [show u = .int x from h], hc.1, hq _ _ F H hc.2 (Same.refl _) (st.val ⟨congrArg V.str (TL.ext_tl (by rw [TL.tl_ofString]; rfl)), strI_ok x⟩)⟩
theorem o_tupL : Op1 (fun u => (fun xs H Q => ∃ p ys, xs = [.ref p] ∧ ((SqL K H p ys ∧ ∀ l, H l = none → Q (.ref l) (upd H l (.tup ys))) ∨ (SqT K H p ys ∧ Q (.ref p) H)) : List V → Hp → VK → Prop) [u]) (pL K ra) (fz (pU K ra)) (fun xs k => k xs) :=
  fun O HI Γ s σ F H x u C Q st ⟨a, vs, h1, h2, h3⟩ hq hc => ⟨a, vs, by rw [h1], .inl ⟨SqL.mono st.ok h2, fun p hp => by
    obtain ⟨e2, st2⟩ := st.newF (o := .tup vs) hp
    exact hq x _ _ _ hc e2 (st2.val ⟨p, vs, rfl, .inl (.inl upd_same), h3.imp fun _ _ q => ra.mono e2 q⟩)⟩⟩
theorem o_tupU : Op1 (fun u => (fun xs H Q => ∃ p ys, xs = [.ref p] ∧ ((SqL K H p ys ∧ ∀ l, H l = none → Q (.ref l) (upd H l (.tup ys))) ∨ (SqT K H p ys ∧ Q (.ref p) H)) : List V → Hp → VK → Prop) [u]) (pU K ra) (fz (pU K ra)) (fun xs k => k xs) :=
  fun O HI Γ s σ F H x u C Q st ⟨a, vs, h1, h2, h3⟩ hq hc => ⟨a, vs, by rw [h1], .inr ⟨SqT.mono st.ok h2, hq x _ F H hc (Same.refl _) (st.val ⟨a, vs, h1 ▸ rfl, h2, h3⟩)⟩⟩
theorem o_listL : Op1 (fun u => (fun xs H Q => ∃ p ys, xs = [.ref p] ∧ (SqL K H p ys ∨ SqT K H p ys) ∧ ∀ l, H l = none → Q (.ref l) (upd H l (.lst ys)) : List V → Hp → VK → Prop) [u]) (pL K ra) (ol ra) (fun xs k => k xs) :=
  fun O HI Γ s σ F H x u C Q st ⟨a, vs, h1, h2, h3⟩ hq hc => ⟨a, vs, by rw [h1], .inl (SqL.mono st.ok h2), fun p hp => hq x _ F _ hc (Same.refl _) (st.newV hp ⟨p, vs, rfl, rfl, h3⟩)⟩
theorem o_listU : Op1 (fun u => (fun xs H Q => ∃ p ys, xs = [.ref p] ∧ (SqL K H p ys ∨ SqT K H p ys) ∧ ∀ l, H l = none → Q (.ref l) (upd H l (.lst ys)) : List V → Hp → VK → Prop) [u]) (pU K ra) (ol ra) (fun xs k => k xs) :=
  fun O HI Γ s σ F H x u C Q st ⟨a, vs, h1, h2, h3⟩ hq hc => ⟨a, vs, by rw [h1], .inr (SqT.mono st.ok h2), fun p hp => hq x _ F _ hc (Same.refl _) (st.newV hp ⟨p, vs, rfl, rfl, h3⟩)⟩
section
variable {p pos : Pos} {e : Expr} {x : Str}
theorem xe_lenL {wa : (List α → S → Prop) → Prop} (hm : mg "len" = none) (ha : XE M O Γ s e (fz (pL K ra)) wa) (hg : GlN sc "len" := by rfl) (hs : NoStar e := by intro _ _; rfl) :
    XE M O Γ s (.Call (.Name "len" p) [e] [] pos) (fz pI) (fun k => wa fun x s1 => k (x.length : Int) s1) :=
  xe_cb1 b_len (fun i => by have h := call_len_seq (X := M.X i); rw [M.kf i] at h; exact h) o_lenL hm hg ha (by decide) (by decide) hs
theorem xe_lenU {wa : (List α → S → Prop) → Prop} (hm : mg "len" = none) (ha : XE M O Γ s e (fz (pU K ra)) wa) (hg : GlN sc "len" := by rfl) (hs : NoStar e := by intro _ _; rfl) :
    XE M O Γ s (.Call (.Name "len" p) [e] [] pos) (fz pI) (fun k => wa fun x s1 => k (x.length : Int) s1) :=
  xe_cb1 b_len (fun i => by have h := call_len_seq (X := M.X i); rw [M.kf i] at h; exact h) o_lenU hm hg ha (by decide) (by decide) hs
theorem xe_lenT {wa : (Text → S → Prop) → Prop} (hm : mg "len" = none) (ha : XE M O Γ s e (fz pT) wa) (hg : GlN sc "len" := by rfl) (hs : NoStar e := by intro _ _; rfl) :
    XE M O Γ s (.Call (.Name "len" p) [e] [] pos) (fz pI) (fun k => wa fun x s1 => x.length ≤ sizeLine ∧ k (x.length : Int) s1) :=
  xe_cb1 b_len (fun i => call_len_str) o_lenT hm hg ha (by decide) (by decide) hs
theorem xe_sum {wa : (List Int → S → Prop) → Prop} (hm : mg "sum" = none) (ha : XE M O Γ s e (fz (pL K pI)) wa) (hg : GlN sc "sum" := by rfl) (hs : NoStar e := by intro _ _; rfl) :
    XE M O Γ s (.Call (.Name "sum" p) [e] [] pos) (fz pI) (fun k => wa fun x s1 => k x.sum s1) :=
  xe_cb1 b_sum (fun i => by have h := cr_sum (X := M.X i) (M.calm i); rw [M.kf i] at h; exact h) o_sum hm hg ha (by decide) (by decide) hs
theorem xe_intB {wa : (Bool → S → Prop) → Prop} (hm : mg "int" = none) (ha : XE M O Γ s e (fz pB) wa) (hg : GlN sc "int" := by rfl) (hs : NoStar e := by intro _ _; rfl) :
    XE M O Γ s (.Call (.Name "int" p) [e] [] pos) (fz pI) (fun k => wa fun x s1 => k (if x then 1 else 0) s1) :=
  xe_ct1 b_int (fun i => call_int1) o_intB hm hg ha (by decide) (by decide) hs
theorem xe_strI {wa : (Int → S → Prop) → Prop} (hm : mg "str" = none) (ha : XE M O Γ s e (fz pI) wa) (hg : GlN sc "str" := by rfl) (hs : NoStar e := by intro _ _; rfl) :
    XE M O Γ s (.Call (.Name "str" p) [e] [] pos) (fz pT) (fun k => wa fun x s1 => x.natAbs.log2 < 1920 ∧ k (strI x) s1) :=
  xe_ct1 b_str (fun i => call_str_int) o_strI hm hg ha (by decide) (by decide) hs
theorem xe_tupL {wa : (List α → S → Prop) → Prop} (hm : mg "tuple" = none) (ha : XE M O Γ s e (fz (pL K ra)) wa) (hg : GlN sc "tuple" := by rfl) (hs : NoStar e := by intro _ _; rfl) :
    XE M O Γ s (.Call (.Name "tuple" p) [e] [] pos) (fz (pU K ra)) wa :=
  xe_ct1 b_tuple (fun i => by have h := call_tuple_of (X := M.X i); rw [M.kf i] at h; exact h) o_tupL hm hg ha (by decide) (by decide) hs
theorem xe_listL {wa : (List α → S → Prop) → Prop} (hm : mg "list" = none) (ha : XE M O Γ s e (fz (pL K ra)) wa) (hg : GlN sc "list" := by rfl) (hs : NoStar e := by intro _ _; rfl) :
    XE M O Γ s (.Call (.Name "list" p) [e] [] pos) (ol ra) wa :=
  xe_ct1 b_list (fun i => by have h := call_list_of (X := M.X i); rw [M.kf i] at h; exact h) o_listL hm hg ha (by decide) (by decide) hs
theorem xe_listU {wa : (List α → S → Prop) → Prop} (hm : mg "list" = none) (ha : XE M O Γ s e (fz (pU K ra)) wa) (hg : GlN sc "list" := by rfl) (hs : NoStar e := by intro _ _; rfl) :
    XE M O Γ s (.Call (.Name "list" p) [e] [] pos) (ol ra) wa :=
  xe_ct1 b_list (fun i => by have h := call_list_of (X := M.X i); rw [M.kf i] at h; exact h) o_listU hm hg ha (by decide) (by decide) hs
end

/-! ### subscripts -/
theorem xe_ix {a b : Expr} {pos : Pos} {r : R2} {Wo : α → β → (ρ → Prop) → Prop} {wa : (α → S → Prop) → Prop} {wb : S → (β → S → Prop) → Prop} (ho : ∀ i, IxR (M.X i) r) (hr : Op2 r ra rb A Wo) (ha : XE M O Γ s a (fz ra) wa) (hb : ∀ s', XE M O Γ s' b (fz rb) (wb s')) (hs : PlainIx b := by intro _ _; rfl) :
    XE M O Γ s (.Subscript a b pos) A (fun k => wa fun x s1 => wb s1 fun y s2 => Wo x y fun z => k z s2) := by
  intro HI C Q σ F H st hq hc
  refine ⟨_, fun i => pe_ix (ho i) (rdE_ok i) (rdE_ok i) hs, two ha hb st (fun x y s' u v F' H' c e rx ry st' => ?_) hc⟩
  exact hr O HI Γ s' σ F' H' x y u v _ Q st' rx ry (fun z v' F2 H2 c2 e2 sv => hq z s' v' F2 H2 c2 (e.trans e2) sv) c
theorem o_ixL : Op2 (rIxL K) (pL K ra) pI (fz ra) (fun xs i k => ∃ y, atI xs i = some y ∧ k y) :=
  fun O HI Γ s σ F H x y u v C Q st ⟨a, vs, h1, h2, h3⟩ ry hq ⟨z, hz, hc⟩ => by
    obtain ⟨v', hv, rz⟩ := h3.at hz
    exact ⟨a, vs, y, v', h1, ry, SqL.mono st.ok h2, hv, hq z v' F H hc (Same.refl _) (st.val rz)⟩
theorem o_ixU : Op2 (rIxT K) (pU K ra) pI (fz ra) (fun xs i k => ∃ y, atI xs i = some y ∧ k y) :=
  fun O HI Γ s σ F H x y u v C Q st ⟨a, vs, h1, h2, h3⟩ ry hq ⟨z, hz, hc⟩ => by
    obtain ⟨v', hv, rz⟩ := h3.at hz
    exact ⟨a, vs, y, v', h1, ry, SqT.mono st.ok h2, hv, hq z v' F H hc (Same.refl _) (st.val rz)⟩
theorem atI_mem {xs : List α} {i : Int} {y : α} (h : atI xs i = some y) : y ∈ xs := by
  unfold atI at h
  cases q : ixN xs.length i with
  | none => rw [q] at h; cases h
  | some j => rw [q] at h; exact List.mem_of_getElem? h
theorem o_ixT : Op2 rIxS pT pI (fz pT) (fun x i k => x.length ≤ sizeLine ∧ ∃ c, atI x i = some c ∧ k [c]) :=
  fun O HI Γ s σ F H x y u v C Q st rx ry hq ⟨hl, z, hz, hc⟩ => ⟨⟨x.toArray⟩, y, z, rx.1, ry, hl, by simpa using hz, hq [z] _ F H hc (Same.refl _) (st.val ⟨rfl, fun c hc => by
    have e : c = z := by simpa using hc
    subst e; exact rx.2 _ (atI_mem hz)⟩)⟩
section
variable {a b : Expr} {pos : Pos} {wb : S → (Int → S → Prop) → Prop} (hb : ∀ s', XE M O Γ s' b (fz pI) (wb s'))
theorem xe_ixL {wa : (List α → S → Prop) → Prop} (ha : XE M O Γ s a (fz (pL K ra)) wa) (hb : ∀ s', XE M O Γ s' b (fz pI) (wb s')) (hs : PlainIx b := by intro _ _; rfl) :
    XE M O Γ s (.Subscript a b pos) (fz ra) (fun k => wa fun x s1 => wb s1 fun i s2 => ∃ y, atI x i = some y ∧ k y s2) := xe_ix (fun i => by have h := ix_list (X := M.X i); rw [M.kf i] at h; exact h) o_ixL ha hb hs
theorem xe_ixU {wa : (List α → S → Prop) → Prop} (ha : XE M O Γ s a (fz (pU K ra)) wa) (hb : ∀ s', XE M O Γ s' b (fz pI) (wb s')) (hs : PlainIx b := by intro _ _; rfl) :
    XE M O Γ s (.Subscript a b pos) (fz ra) (fun k => wa fun x s1 => wb s1 fun i s2 => ∃ y, atI x i = some y ∧ k y s2) := xe_ix (fun i => by have h := ix_tup (X := M.X i); rw [M.kf i] at h; exact h) o_ixU ha hb hs
theorem xe_ixT {wa : (Text → S → Prop) → Prop} (ha : XE M O Γ s a (fz pT) wa) (hb : ∀ s', XE M O Γ s' b (fz pI) (wb s')) (hs : PlainIx b := by intro _ _; rfl) :
    XE M O Γ s (.Subscript a b pos) (fz pT) (fun k => wa fun x s1 => wb s1 fun i s2 => x.length ≤ sizeLine ∧ ∃ c, atI x i = some c ∧ k [c] s2) := xe_ix (fun i => ix_str) o_ixT ha hb hs
end
end
end Sm

set_option Elab.async false
set_option linter.all false
set_option maxRecDepth 100000
set_option maxHeartbeats 4000000
namespace Sm
open PySem PySem.Spec PyProof.Rows L2
/-! ### a slot taken out and put back -/
theorem Sat.take {F : Hp} : ∀ {Γ : Asrt} {σ : L2.St} {h : HL} (i : Nat), Sat Γ σ F h → ∃ h' h'', h.Perm (h' ++ h'') ∧ Sat (Γ.set i none) (σ.set i none) F h' ∧
    ∀ F' h1, Same F F' → Sat (Γ.set i none) (σ.set i none) F' h1 → ∃ h0, h0.Perm (h1 ++ h'') ∧ Sat Γ σ F' h0
  | none :: Γ, s :: σ, h, 0, q => ⟨h, [], by rw [List.append_nil], q, fun F' h1 e q' => ⟨h1, by rw [List.append_nil], q'⟩⟩
  | some B :: Γ, s :: σ, h, 0, ⟨v, g1, g2, a0, b0, c0, d0⟩ => ⟨g2, g1, by rw [b0]; exact List.perm_append_comm, d0, fun F' h1 e q' => ⟨g1 ++ h1, List.perm_append_comm, v, g1, h1, a0, rfl, B.mono e c0, q'⟩⟩
  | none :: Γ, s :: σ, h, i + 1, q => by
    obtain ⟨h', h'', e1, e2, e3⟩ := Sat.take (Γ := Γ) (σ := σ) (h := h) i q
    exact ⟨h', h'', e1, e2, e3⟩
  | some B :: Γ, s :: σ, h, i + 1, ⟨v, g1, g2, a0, b0, c0, d0⟩ => by
    obtain ⟨h', h'', e1, e2, e3⟩ := Sat.take (Γ := Γ) (σ := σ) (h := g2) i d0
    refine ⟨g1 ++ h', h'', by rw [b0, List.append_assoc]; exact List.Perm.append_left g1 e1, ⟨v, g1, h', a0, rfl, c0, e2⟩, fun F' h1 e q' => ?_⟩
    obtain ⟨v', k1, k2, a1, b1, c1, d1⟩ := q'
    obtain ⟨h0, p0, q0⟩ := e3 F' k2 e d1
    refine ⟨k1 ++ h0, by rw [b1, List.append_assoc]; exact List.Perm.append_left k1 p0, v', k1, h0, a1, rfl, c1, q0⟩
  | [], [], h, i, q => ⟨h, [], by rw [List.append_nil], q, fun F' h1 e q' => ⟨h1, by rw [List.append_nil], q'⟩⟩
theorem Sat.takes {F : Hp} {Γ : Asrt} {σ : L2.St} {h : HL} (q : Sat Γ σ F h) : ∀ vs : List Nat, ∃ h' h'', h.Perm (h' ++ h'') ∧ Sat (wipeA Γ vs) (L2.wipe σ vs) F h' ∧
    ∀ F' h1, Same F F' → Sat (wipeA Γ vs) (L2.wipe σ vs) F' h1 → ∃ h0, h0.Perm (h1 ++ h'') ∧ Sat Γ σ F' h0
  | [] => ⟨h, [], by rw [List.append_nil], q, fun F' h1 e q' => ⟨h1, by rw [List.append_nil], q'⟩⟩
  | v :: vs => by
    obtain ⟨a1, a2, p1, q1, r1⟩ := Sat.takes q vs
    obtain ⟨b1, b2, p2, q2, r2⟩ := Sat.take v q1
    refine ⟨b1, b2 ++ a2, p1.trans (by rw [← List.append_assoc]; exact p2.append_right _), q2, fun F' h1 e q' => ?_⟩
    obtain ⟨c1, p3, q3⟩ := r2 F' h1 e q'
    obtain ⟨c2, p4, q4⟩ := r1 F' c1 e q3
    exact ⟨c2, p4.trans (by rw [← List.append_assoc]; exact p3.append_right _), q4⟩
theorem wipeA_length (Γ : Asrt) : ∀ vs : List Nat, (wipeA Γ vs).length = Γ.length
  | [] => rfl
  | v :: vs => by unfold wipeA; rw [List.length_set, wipeA_length Γ vs]
theorem wipeA_in {Γ : Asrt} {i : Nat} : ∀ {vs : List Nat}, i ∈ vs → i < Γ.length → (wipeA Γ vs)[i]? = some none
  | v :: vs, h, l => by
    unfold wipeA
    by_cases e : v = i
    · subst e; rw [List.getElem?_set_self (by rw [wipeA_length]; exact l)]
    · rw [List.getElem?_set_ne e]
      exact wipeA_in ((List.mem_cons.mp h).resolve_left fun q => e q.symm) l
theorem wipeA_out {Γ : Asrt} {i : Nat} : ∀ {vs : List Nat}, i ∉ vs → (wipeA Γ vs)[i]? = Γ[i]?
  | [], _ => rfl
  | v :: vs, h => by
    unfold wipeA
    rw [List.getElem?_set_ne (fun e => h (by simp [e]))]
    exact wipeA_out fun q => h (List.mem_cons_of_mem _ q)
theorem wipe_in {σ : L2.St} {i : Nat} : ∀ {vs : List Nat}, i ∈ vs → i < σ.length → (wipe σ vs)[i]? = some none
  | v :: vs, h, l => by
    unfold wipe
    by_cases e : v = i
    · subst e; rw [List.getElem?_set_self (by rw [wipe_length]; exact l)]
    · rw [List.getElem?_set_ne e]
      exact wipe_in ((List.mem_cons.mp h).resolve_left fun q => e q.symm) l
theorem wipe_eq {σ σ' : L2.St} {vs : List Nat} (hl : σ'.length = σ.length) (h : ∀ i, i ∉ vs → σ'[i]? = σ[i]?) : wipe σ' vs = wipe σ vs := by
  refine List.ext_getElem? fun i => ?_
  by_cases hi : i ∈ vs
  · by_cases l : i < σ.length
    · rw [wipe_in hi l, wipe_in hi (by rw [hl]; exact l)]
    · rw [List.getElem?_eq_none (by rw [wipe_length]; omega), List.getElem?_eq_none (by rw [wipe_length]; omega)]
  · rw [wipe_out hi, wipe_out hi, h i hi]
theorem wipeA_eq {Γ Γ' : Asrt} {vs : List Nat} (hl : Γ'.length = Γ.length) (h : ∀ i, i ∉ vs → Γ'[i]? = Γ[i]?) : wipeA Γ' vs = wipeA Γ vs := by
  refine List.ext_getElem? fun i => ?_
  by_cases hi : i ∈ vs
  · by_cases l : i < Γ.length
    · rw [wipeA_in hi l, wipeA_in hi (by rw [hl]; exact l)]
    · rw [List.getElem?_eq_none (by rw [wipeA_length]; omega), List.getElem?_eq_none (by rw [wipeA_length]; omega)]
  · rw [wipeA_out hi, wipeA_out hi, h i hi]

section
variable {P : Program} {w : World} {K : PySem.W.Frag} {mg : Str → Option Value} {base : Heap} {N : List Str} {sc : Scope} {fn : Str → Bool} {k : Nat}
/-- the blocks of a comprehension -/
def Fm.blk (M : Fm P w K mg base N sc fn k) (scope : Scope) : Fm P w K mg base N (relS scope sc) (fun x => scope.names.lookup x == some .cell) k where
  ι := M.ι × Shared × Hp × Addr × List (Str × Addr) × List Addr
  X := fun j => (M.X j.1).blk j.2.1 j.2.2.1 scope (compEnvC scope j.2.2.2.2.1 j.2.2.2.1 (M.X j.1).env) j.2.2.2.2.2
  prog := fun j => M.prog j.1
  wd := fun j => M.wd j.1
  kf := fun j => M.kf j.1
  mgl := fun j => M.mgl j.1
  bas := fun j => M.bas j.1
  nn := fun j => M.nn j.1
  scp := fun j => by show relS scope (M.X j.1).env.scope = _; rw [M.scp]
  calm := fun j => M.calm j.1
  room := fun j => M.room j.1
  pass := fun j => PassesOwn.never
  fnl := fun j x h => h
  nd := M.nd
variable {M : Fm P w K mg base N sc fn k}
variable {S : Type} {O : S → Res} {Γ : Asrt} {s : S} {α β γ ρ : Type} {ra : RP α} {rb : RP β} {rc : RP γ} {A : ρ → VA}

/-! ### targets -/
structure XGt (M : Fm P w K mg base N sc fn k) {α : Type} (tg : Expr) (r : RP α) (g : α → Asrt → Asrt) (L : List Nat) : Prop where
  run : ∀ {S : Type} (O : S → Res) (HI : Hp) (Γ : Asrt) (s : S) (σ : L2.St) (F H : Hp) (x : α) (v : V) (Q : L2.St → Hp → Prop), Γ.length = N.length → Stt O HI Γ s σ F H → r.r x v F →
    (∀ σ', σ'.length = σ.length → (∀ i, i ∉ L → σ'[i]? = σ[i]?) → Stt O HI (g x Γ) s σ' F H → Q σ' H) → rdG M tg v σ H Q
  len : ∀ x Γ, (g x Γ).length = Γ.length
  out : ∀ x Γ i, i ∉ L → (g x Γ)[i]? = Γ[i]?
theorem xg_name (i : Nat) {x : Str} {pos : Pos} (hN : N[i]? = some x := by rfl) (hx : Loc sc x := by first | exact Or.inl rfl | exact Or.inr rfl) (hf : fn x = true ∨ sc.names.lookup x = some .local := by first | exact Or.inl rfl | exact Or.inr rfl) :
    XGt M (.Name x pos) ra (fun y Γ => Γ.set i (some (fz ra y))) [i] := by
  refine ⟨fun O HI Γ s σ F H y v Q hl st ry hq => ?_, fun _ _ => List.length_set .., fun y Γ j hj => List.getElem?_set_ne fun e => hj (by simp [e])⟩
  have hi : i < N.length := (List.getElem?_eq_some_iff.mp hN).1
  refine ⟨gName i, fun j => pg_name (by rw [M.nn]; exact M.nd) (by rw [M.nn]; exact hN) (by rw [M.scp]; exact hx) (by rw [M.scp]; exact hf.imp (M.fnl j x) fun q => q), ?_⟩
  exact hq _ (List.length_set ..) (fun j hj => List.getElem?_set_ne fun e => hj (by simp [e])) (Stt.put (st.val ry) (by rw [hl]; exact hi))
theorem xg_tup2 {t1 t2 : Expr} {kk : Nat} {pos : Pos} {g1 : α → Asrt → Asrt} {g2 : β → Asrt → Asrt} {L1 L2 : List Nat} (h1 : XGt M t1 ra g1 L1) (h2 : XGt M t2 rb g2 L2)
    (hn : ∀ env, (assignEach [t1, t2] env).length = 2 := by intro _; rfl) (hst : ∀ env, (assignEach [t1, t2] env).findIdx? (·.1) = none := by intro _; rfl)
    (hs : ∀ env, (assignEach [t1, t2] env).map (·.2) = assign t1 env :: (assignEach [t2] env).map (·.2) := by intro _; rfl) (hs2 : ∀ env, (assignEach [t2] env).map (·.2) = assign t2 env :: (assignEach [] env).map (·.2) := by intro _; rfl) :
    XGt M (.Tuple [t1, t2] kk pos) (pP K ra rb) (fun y Γ => g2 y.2 (g1 y.1 Γ)) (L1 ++ L2) := by
  refine ⟨fun O HI Γ s σ F H y v Q hl st ry hq => ?_, fun y Γ => by rw [h2.len, h1.len], fun y Γ j hj => ?_⟩
  · obtain ⟨a, u1, u2, ev, hT, r1, r2⟩ := ry
    refine ⟨gTup K 2 (gCons (rdG M t1) (gCons (rdG M t2) gNil)), fun i => ?_, a, [u1, u2], ev, SqT.mono st.ok hT, rfl, u1, [u2], rfl, h1.run O HI Γ s σ F H y.1 u1 _ hl st r1 fun σ1 l1 o1 st1 => ⟨u2, [], rfl, h2.run O HI _ s σ1 F H y.2 u2 _ (by rw [h1.len]; exact hl) st1 r2 fun σ2 l2 o2 st2 => ⟨rfl, ?_⟩⟩⟩
    · have q := pg_tup (X := M.X i) (k := kk) (pos := pos) (M.calm i) (pgs_cons (rdG_ok i) (pgs_cons (rdG_ok i) pgs_nil (hs2 _)) (hs _)) (hn _) (hst _)
      rw [M.kf i] at q
      exact q
    · exact hq σ2 (l2.trans l1) (fun j hj => by rw [o2 j fun z => hj (List.mem_append_right _ z), o1 j fun z => hj (List.mem_append_left _ z)]) st2
  · rw [h2.out _ _ _ fun z => hj (List.mem_append_right _ z), h1.out _ _ _ fun z => hj (List.mem_append_left _ z)]
theorem xg_tup3 {t1 t2 t3 : Expr} {kk : Nat} {pos : Pos} {g1 : α → Asrt → Asrt} {g2 : β → Asrt → Asrt} {g3 : γ → Asrt → Asrt} {L1 L2 L3 : List Nat} (h1 : XGt M t1 ra g1 L1) (h2 : XGt M t2 rb g2 L2) (h3 : XGt M t3 rc g3 L3)
    (hn : ∀ env, (assignEach [t1, t2, t3] env).length = 3 := by intro _; rfl) (hst : ∀ env, (assignEach [t1, t2, t3] env).findIdx? (·.1) = none := by intro _; rfl)
    (hs : ∀ env, (assignEach [t1, t2, t3] env).map (·.2) = assign t1 env :: (assignEach [t2, t3] env).map (·.2) := by intro _; rfl) (hs2 : ∀ env, (assignEach [t2, t3] env).map (·.2) = assign t2 env :: (assignEach [t3] env).map (·.2) := by intro _; rfl)
    (hs3 : ∀ env, (assignEach [t3] env).map (·.2) = assign t3 env :: (assignEach [] env).map (·.2) := by intro _; rfl) :
    XGt M (.Tuple [t1, t2, t3] kk pos) (pP3 K ra rb rc) (fun y Γ => g3 y.2.2 (g2 y.2.1 (g1 y.1 Γ))) (L1 ++ (L2 ++ L3)) := by
  refine ⟨fun O HI Γ s σ F H y v Q hl st ry hq => ?_, fun y Γ => by rw [h3.len, h2.len, h1.len], fun y Γ j hj => ?_⟩
  · obtain ⟨a, u1, u2, u3, ev, hT, r1, r2, r3⟩ := ry
    refine ⟨gTup K 3 (gCons (rdG M t1) (gCons (rdG M t2) (gCons (rdG M t3) gNil))), fun i => ?_, a, [u1, u2, u3], ev, SqT.mono st.ok hT, rfl, u1, [u2, u3], rfl, h1.run O HI Γ s σ F H y.1 u1 _ hl st r1 fun σ1 l1 o1 st1 => ⟨u2, [u3], rfl, h2.run O HI _ s σ1 F H y.2.1 u2 _ (by rw [h1.len]; exact hl) st1 r2 fun σ2 l2 o2 st2 =>
      ⟨u3, [], rfl, h3.run O HI _ s σ2 F H y.2.2 u3 _ (by rw [h2.len, h1.len]; exact hl) st2 r3 fun σ3 l3 o3 st3 => ⟨rfl, ?_⟩⟩⟩⟩
    · have q := pg_tup (X := M.X i) (k := kk) (pos := pos) (M.calm i) (pgs_cons (rdG_ok i) (pgs_cons (rdG_ok i) (pgs_cons (rdG_ok i) pgs_nil (hs3 _)) (hs2 _)) (hs _)) (hn _) (hst _)
      rw [M.kf i] at q
      exact q
    · exact hq σ3 (l3.trans (l2.trans l1)) (fun j hj => by
        rw [o3 j fun z => hj (List.mem_append_right _ (List.mem_append_right _ z)), o2 j fun z => hj (List.mem_append_right _ (List.mem_append_left _ z)), o1 j fun z => hj (List.mem_append_left _ z)]) st3
  · rw [h3.out _ _ _ fun z => hj (List.mem_append_right _ (List.mem_append_right _ z)), h2.out _ _ _ fun z => hj (List.mem_append_right _ (List.mem_append_left _ z)), h1.out _ _ _ fun z => hj (List.mem_append_left _ z)]

/-! ### what is walked -/
theorem xi_list {tg e : Expr} {wa : (List α → S → Prop) → Prop} (ha : XE M O Γ s e (fz (pL K ra)) wa) : XI M O Γ s tg e ra wa := by
  intro HI C R σ F H st hq hc
  refine ⟨_, fun i => (by have h := pi_list (X := M.X i) (tg := tg) (rdE_ok (M := M) i (e := e)); rw [M.kf i] at h; exact h), ha HI _ _ σ F H st (fun xs s1 u F1 H1 c1 e1 sv1 => ?_) hc⟩
  obtain ⟨⟨a, vs, h1, h2, h3⟩, st1⟩ := sv1.fz
  refine ⟨a, h1, ⟨vs, SqL.mono st1.ok h2⟩, hq xs s1 _ F1 H1 c1 e1 st1 fun F2 e2 HI' h H2 ok => ⟨fun i x hx => ?_, ?_⟩⟩
  · obtain ⟨v, hv, rv⟩ := h3.get hx
    refine ⟨⟨vs, v, SqL.mono (e2.trans ok.fz) h2, hv⟩, fun v' H' hy => ?_⟩
    obtain ⟨eh, hy⟩ := hy
    subst eh
    have := hy vs (SqL.mono (e2.trans ok.fz) h2)
    rw [hv] at this; cases this
    exact ⟨F2, Same.refl _, ok, ra.mono e2 rv⟩
  · exact ⟨vs, SqL.mono (e2.trans ok.fz) h2, by rw [h3.length]; exact Nat.le_refl _⟩
theorem xi_tup {tg e : Expr} {wa : (List α → S → Prop) → Prop} (ha : XE M O Γ s e (fz (pU K ra)) wa) : XI M O Γ s tg e ra wa := by
  intro HI C R σ F H st hq hc
  refine ⟨_, fun i => (by have h := pi_tup (X := M.X i) (tg := tg) (rdE_ok (M := M) i (e := e)); rw [M.kf i] at h; exact h), ha HI _ _ σ F H st (fun xs s1 u F1 H1 c1 e1 sv1 => ?_) hc⟩
  obtain ⟨⟨a, vs, h1, h2, h3⟩, st1⟩ := sv1.fz
  refine ⟨a, h1, ⟨vs, SqT.mono st1.ok h2⟩, hq xs s1 _ F1 H1 c1 e1 st1 fun F2 e2 HI' h H2 ok => ⟨fun i x hx => ?_, ?_⟩⟩
  · obtain ⟨v, hv, rv⟩ := h3.get hx
    refine ⟨⟨vs, v, SqT.mono (e2.trans ok.fz) h2, hv⟩, fun v' H' hy => ?_⟩
    obtain ⟨eh, hy⟩ := hy
    subst eh
    have := hy vs (SqT.mono (e2.trans ok.fz) h2)
    rw [hv] at this; cases this
    exact ⟨F2, Same.refl _, ok, ra.mono e2 rv⟩
  · exact ⟨vs, SqT.mono (e2.trans ok.fz) h2, by rw [h3.length]; exact Nat.le_refl _⟩
/-- the signs of a text -/
def sgs (x : Text) : List Text := x.map fun c => [c]
theorem xi_str {tg e : Expr} {wa : (Text → S → Prop) → Prop} (ha : XE M O Γ s e (fz pT) wa) : XI M O Γ s tg e pT (fun k => wa fun x s1 => k (sgs x) s1) := by
  intro HI C R σ F H st hq hc
  refine ⟨_, fun i => pi_str (rdE_ok i), ha HI _ _ σ F H st (fun x s1 u F1 H1 c1 e1 sv1 => ?_) hc⟩
  obtain ⟨⟨h1, h2⟩, st1⟩ := sv1.fz
  refine ⟨⟨x.toArray⟩, h1, hq (sgs x) s1 _ F1 H1 c1 e1 st1 fun F2 e2 HI' h H2 ok => ⟨fun i y hy => ?_, ?_⟩⟩
  · unfold sgs at hy
    rw [List.getElem?_map] at hy
    cases q : x[i]? with
    | none => rw [q] at hy; cases hy
    | some c =>
      rw [q] at hy; cases hy
      refine ⟨by show i < x.toArray.size; simpa using (List.getElem?_eq_some_iff.mp q).1, fun v' H' hy => ?_⟩
      obtain ⟨eh, c', hc', ev⟩ := hy
      subst eh ev
      have e : c' = c := by
        have : x[i]? = some c' := by simpa using hc'
        rw [q] at this; cases this; rfl
      subst e
      exact ⟨F2, Same.refl _, ok, rfl, fun d hd => by
        have e : d = c' := by simpa using hd
        subst e; exact h2 _ (List.mem_of_getElem? q)⟩
  · show (x.toArray).size ≤ _
    simp [sgs]
/-- lo, lo + 1, .. -/
def rg (lo : Int) (n : Nat) : List Int := (List.range n).map fun (i : Nat) => lo + (i : Int)
theorem jok_range (lo : Int) (n : Nat) (F : Hp) : JOk (Itr lo n) pI (rg lo n) F := by
  intro F1 e1 HI h H ok
  refine ⟨fun i x hx => ?_, ?_⟩
  · unfold rg at hx
    rw [List.getElem?_map] at hx
    by_cases hi : i < n
    · rw [List.getElem?_range hi] at hx
      cases hx
      refine ⟨hi, fun v H' hy => ?_⟩
      obtain ⟨eh, ev⟩ := hy
      subst eh ev
      exact ⟨F1, Same.refl _, ok, rfl⟩
    · rw [List.getElem?_eq_none (by simpa using hi)] at hx; cases hx
  · show n ≤ (rg lo n).length
    simp [rg]
theorem xi_range1 {tg a : Expr} {p pos : Pos} {wa : (Int → S → Prop) → Prop} (hm : mg "range" = none) (ha : XE M O Γ s a (fz pI) wa) (hg : GlN sc "range" := by rfl) (hs : NoStar a := by intro _ _; rfl) :
    XI M O Γ s tg (.Call (.Name "range" p) [a] [] pos) pI (fun k => wa fun j s1 => (-(2 ^ 62) ≤ j ∧ j < 2 ^ 62) ∧ k (rg 0 j.toNat) s1) := by
  intro HI C R σ F H st hq hc
  refine ⟨_, fun i => pi_range1 (Gl.of hg i) (M.none hm i) (pa_cons (rdE_ok i) pa_nil (hs _ _)) (hs _ _), ha HI _ _ σ F H st (fun x s1 u F1 H1 c1 e1 sv1 => ?_) hc⟩
  obtain ⟨rx, st1⟩ := sv1.fz
  exact ⟨x, by rw [show u = .int x from rx], c1.1.1, c1.1.2, hq _ s1 _ F1 H1 c1.2 e1 st1 (jok_range 0 x.toNat F1)⟩
theorem xi_range2 {tg a b : Expr} {p pos : Pos} {wa : (Int → S → Prop) → Prop} {wb : S → (Int → S → Prop) → Prop} (hm : mg "range" = none) (ha : XE M O Γ s a (fz pI) wa) (hb : ∀ s', XE M O Γ s' b (fz pI) (wb s')) (hg : GlN sc "range" := by rfl) (hs : NoStar a := by intro _ _; rfl) (hs2 : NoStar b := by intro _ _; rfl) :
    XI M O Γ s tg (.Call (.Name "range" p) [a, b] [] pos) pI (fun k => wa fun i s1 => wb s1 fun j s2 => (-(2 ^ 62) ≤ i ∧ i < 2 ^ 62 ∧ -(2 ^ 62) ≤ j ∧ j < 2 ^ 62) ∧ k (rg i (j - i).toNat) s2) := by
  intro HI C R σ F H st hq hc
  refine ⟨_, fun i => pi_range2 (Gl.of hg i) (M.none hm i) (pa_cons (rdE_ok i) (pa_cons (rdE_ok i) pa_nil (hs2 _ _)) (hs _ _)) (by rw [hs, hs2]; rfl) (hs2 _ _), ?_⟩
  refine two ha hb st (R := fun u v H2 => _) (fun x y s' u v F' H' c e rx ry st' => ?_) hc
  exact ⟨x, y, by rw [show u = .int x from rx, show v = .int y from ry], c.1, hq _ s' _ F' H' c.2 e st' (jok_range x _ F')⟩
/-- what zip and enumerate draw from -/
def Drw (K : PySem.W.Frag) {ι : Type} (ra : RP α) (ri : RP ι) (f : α → List ι) : Prop := ∀ {x v F H}, Same F H → ra.r x v F → ∃ xs, ∀ R : Kd → Prop,
  (∀ kd : Kd, (∀ F1 H1, Same F F1 → Same F1 H1 → ∃ vs, kd.its K H1 vs ∧ All2 (fun x v => ri.r x v F1) (f x) vs) → R kd) → KdV K H v xs R
theorem drw_L : Drw K (pL K ra) ra (fun xs => xs) := fun {x v F H} e ⟨a, vs, h1, h2, h3⟩ => ⟨vs, fun R hR => .inr (.inl ⟨a, h1, SqL.mono e h2, hR _ fun F1 H1 e1 e2 => ⟨vs, SqL.mono (e1.trans e2) h2, h3.imp fun _ _ q => ra.mono e1 q⟩⟩)⟩
theorem drw_U : Drw K (pU K ra) ra (fun xs => xs) := fun {x v F H} e ⟨a, vs, h1, h2, h3⟩ => ⟨vs, fun R hR => .inr (.inr ⟨a, h1, SqT.mono e h2, hR _ fun F1 H1 e1 e2 => ⟨vs, SqT.mono (e1.trans e2) h2, h3.imp fun _ _ q => ra.mono e1 q⟩⟩)⟩
theorem sgs_all2 {F : Hp} : ∀ {x : Text}, okT x → All2 (fun x v => pT.r x v F) (sgs x) (x.map fun c => V.str ⟨#[c]⟩)
  | [], _ => trivial
  | c :: x, h => ⟨⟨rfl, fun d hd => by
      have e : d = c := by simpa using hd
      subst e; exact h _ List.mem_cons_self⟩, sgs_all2 fun d hd => h d (List.mem_cons_of_mem _ hd)⟩
theorem drw_T : Drw K pT pT sgs := fun {x v F H} e h => ⟨x.map fun c => V.str ⟨#[c]⟩, fun R hR => .inl ⟨⟨x.toArray⟩, h.1, by simp, fun t => hR _ fun F1 H1 e1 e2 => ⟨_, by show _ = (x.toArray.toList.map _); rw [List.toList_toArray], sgs_all2 h.2⟩⟩⟩
theorem zip_get {α β : Type} : ∀ {xs : List α} {ys : List β} {i : Nat} {x : α × β}, (xs.zip ys)[i]? = some x → xs[i]? = some x.1 ∧ ys[i]? = some x.2
  | [], _, _, _, h => by simp at h
  | _ :: _, [], _, _, h => by simp at h
  | a :: xs, b :: ys, 0, x, h => by
    have e : (a, b) = x := Option.some.inj h
    subst e; exact ⟨rfl, rfl⟩
  | a :: xs, b :: ys, i + 1, x, h => zip_get (xs := xs) (ys := ys) (i := i) h
theorem xi_zip {ι κ : Type} {ri : RP ι} {rk : RP κ} {f : α → List ι} {g : β → List κ} {e e2 : Expr} {elts : List Expr} {kk : Nat} {tpos p pos : Pos} {wa : (α → S → Prop) → Prop} {wb : S → (β → S → Prop) → Prop} (hm : mg "zip" = none)
    (d1 : Drw K ra ri f) (d2 : Drw K rb rk g) (ha : XE M O Γ s e (fz ra) wa) (hb : ∀ s', XE M O Γ s' e2 (fz rb) (wb s')) (hg : GlN sc "zip" := by rfl) (hs : NoStar e := by intro _ _; rfl) (hs2 : NoStar e2 := by intro _ _; rfl) :
    XI M O Γ s (.Tuple elts kk tpos) (.Call (.Name "zip" p) [e, e2] [] pos) (pP K ri rk) (fun k => wa fun x s1 => wb s1 fun y s2 => k ((f x).zip (g y)) s2) := by
  intro HI C R σ F H st hq hc
  refine ⟨_, fun i => (by
    have h := pi_z (X := M.X i) (elts := elts) (kk := kk) (tpos := tpos) (p := p) (pos := pos) (Gl.of hg i) (M.none hm i) (pa_cons (rdE_ok (M := M) i (e := e)) (pa_cons (rdE_ok (M := M) i (e := e2)) pa_nil (hs2 _ _)) (hs _ _)) (hs _ _) (by rw [hs2 [] (M.X i).env]; rfl)
    rw [M.kf i] at h; exact h), ?_⟩
  refine two ha hb st (R := fun u v H2 => _) (fun x y s' u v F' H' c e1 rx ry st' => ?_) hc
  obtain ⟨xs, hx⟩ := d1 st'.ok rx
  obtain ⟨ys, hy⟩ := d2 st'.ok ry
  refine ⟨u, v, xs, ys, rfl, hx _ fun k1 h1 => hy _ fun k2 h2 => hq _ s' _ F' H' c e1 st' fun F2 e2 HI' h H2 ok => ⟨fun i z hz => ?_, ?_⟩⟩
  · obtain ⟨vs, hv1, hv2⟩ := h1 F2 H2 e2 ok.fz
    obtain ⟨ws, hw1, hw2⟩ := h2 F2 H2 e2 ok.fz
    obtain ⟨z1, z2⟩ := zip_get hz
    obtain ⟨v1, g1, r1⟩ := hv2.get z1
    obtain ⟨v2, g2, r2⟩ := hw2.get z2
    refine ⟨⟨vs, ws, v1, v2, hv1, hw1, g1, g2⟩, fun v' H' hy => ?_⟩
    obtain ⟨T, w1, w2, ev, nT, eh, q1, q2⟩ := hy
    subst ev eh
    have e3 := q1 vs hv1
    rw [g1] at e3; cases e3
    have e4 := q2 ws hw1
    rw [g2] at e4; cases e4
    have e5 : Same F2 (upd F2 T (.tup [v1, v2])) := same_upd (ok.free nT).1
    exact ⟨_, e5, ok.newF nT, T, v1, v2, rfl, .inl (.inl upd_same), ri.mono e5 r1, rk.mono e5 r2⟩
  · obtain ⟨vs, hv1, hv2⟩ := h1 F2 H2 e2 ok.fz
    obtain ⟨ws, hw1, hw2⟩ := h2 F2 H2 e2 ok.fz
    exact ⟨vs, ws, hv1, hw1, by rw [List.length_zip, hv2.length, hw2.length]⟩
/-- enumerate's pairs -/
def enI {ι : Type} (xs : List ι) : List (Int × ι) := xs.zipIdx.map fun p => ((p.2 : Int), p.1)
theorem enI_get {ι : Type} {xs : List ι} {i : Nat} {z : Int × ι} (h : (enI xs)[i]? = some z) : z.1 = (i : Int) ∧ xs[i]? = some z.2 := by
  unfold enI at h
  rw [List.getElem?_map, List.getElem?_zipIdx] at h
  cases q : xs[i]? with
  | none => rw [q] at h; cases h
  | some x => rw [q] at h; cases h; exact ⟨by simp, rfl⟩
theorem xi_enum {ι : Type} {ri : RP ι} {f : α → List ι} {e : Expr} {elts : List Expr} {kk : Nat} {tpos p pos : Pos} {wa : (α → S → Prop) → Prop} (hm : mg "enumerate" = none)
    (d1 : Drw K ra ri f) (ha : XE M O Γ s e (fz ra) wa) (hg : GlN sc "enumerate" := by rfl) (hs : NoStar e := by intro _ _; rfl) :
    XI M O Γ s (.Tuple elts kk tpos) (.Call (.Name "enumerate" p) [e] [] pos) (pP K pI ri) (fun k => wa fun x s1 => k (enI (f x)) s1) := by
  intro HI C R σ F H st hq hc
  refine ⟨_, fun i => (by
    have h := pi_e (X := M.X i) (elts := elts) (kk := kk) (tpos := tpos) (p := p) (pos := pos) (Gl.of hg i) (M.none hm i) (pa_cons (rdE_ok (M := M) i (e := e)) pa_nil (hs _ _)) (hs _ _)
    rw [M.kf i] at h; exact h), ha HI _ _ σ F H st (fun x s1 u F1 H1 c1 e1 sv1 => ?_) hc⟩
  obtain ⟨rx, st1⟩ := sv1.fz
  obtain ⟨xs, hx⟩ := d1 st1.ok rx
  refine ⟨u, xs, rfl, hx _ fun k1 h1 => hq _ s1 _ F1 H1 c1 e1 st1 fun F2 e2 HI' h H2 ok => ⟨fun i z hz => ?_, ?_⟩⟩
  · obtain ⟨vs, hv1, hv2⟩ := h1 F2 H2 e2 ok.fz
    obtain ⟨z1, z2⟩ := enI_get hz
    obtain ⟨v1, g1, r1⟩ := hv2.get z2
    refine ⟨⟨vs, v1, hv1, g1⟩, fun v' H' hy => ?_⟩
    obtain ⟨T, w1, ev, nT, eh, q1⟩ := hy
    subst ev eh
    have e3 := q1 vs hv1
    rw [g1] at e3; cases e3
    have e5 : Same F2 (upd F2 T (.tup [.int (i : Nat), v1])) := same_upd (ok.free nT).1
    exact ⟨_, e5, ok.newF nT, T, .int (i : Nat), v1, rfl, .inl (.inl upd_same), by show V.int _ = V.int _; rw [z1], ri.mono e5 r1⟩
  · obtain ⟨vs, hv1, hv2⟩ := h1 F2 H2 e2 ok.fz
    exact ⟨vs, hv1, by unfold enI; rw [List.length_map, List.length_zipIdx, hv2.length]⟩
end
end Sm

set_option Elab.async false
set_option linter.all false
set_option maxRecDepth 100000
set_option maxHeartbeats 4000000
namespace Sm
open PySem PySem.Spec PyProof.Rows L2
/-- a comprehension, word by word -/
def compW {α β S : Type} (B : α → S → (Option β → S → Prop) → Prop) (k : List β → S → Prop) : List α → S → List β → Prop
  | [], s, acc => k acc s
  | x :: xs, s, acc => B x s fun o s' => compW B k xs s' (match o with | none => acc | some y => acc ++ [y])
/-- a for loop, word by word: c what it carries, kn the next turn, kb a break -/
def forB {α γ S : Type} (B : α → γ → S → (γ → S → Prop) → (γ → S → Prop) → Prop) (k : γ → S → Prop) : List α → γ → S → Prop
  | [], c, s => k c s
  | x :: xs, c, s => B x c s (fun c' s' => forB B k xs c' s') k
section
variable {P : Program} {w : World} {K : PySem.W.Frag} {mg : Str → Option Value} {base : Heap} {N : List Str} {sc : Scope} {fn : Str → Bool} {k : Nat}
variable {M : Fm P w K mg base N sc fn k}
variable {S : Type} {O : S → Res} {Γ : Asrt} {s : S} {α β γ ρ : Type} {ra : RP α} {rb : RP β} {rc : RP γ} {A : ρ → VA}
/-! ### tests of a clause -/
def XTs (M : Fm P w K mg base N sc fn k) (O : S → Res) (Γ : Asrt) (s : S) (es : List Expr) (W : (Bool → S → Prop) → Prop) : Prop :=
  ∀ (HI : Hp) (C : Bool → S → Prop) (Q : Bool → Hp → Prop) (σ : L2.St) (F H : Hp), Stt O HI Γ s σ F H →
    (∀ x s' F' H', C x s' → Same F F' → Stt O HI Γ s' σ F' H' → Q x H') → W C → rdTs M es σ H Q
theorem xts_nil : XTs M O Γ s [] (fun k => k true s) := by
  intro HI C Q σ F H st hq hc
  exact ⟨_, fun i => pts_nil, hq true s F H hc (Same.refl _) st⟩
theorem xts_one {c : Expr} {W : (Bool → S → Prop) → Prop} (h : XT M O Γ s c W) : XTs M O Γ s [c] W := by
  intro HI C Q σ F H st hq hc
  exact ⟨_, fun i => pts_one (rdT_ok i), h HI C Q σ F H st hq hc⟩

/-! ### list comprehensions -/
theorem lc_run {tg iter elt : Expr} {ifs : List Expr} {scope : Scope} {vs L : List Nat} {g : α → Asrt → Asrt} {wi : (List α → S → Prop) → Prop} {wt : α → S → (Bool → S → Prop) → Prop} {we : α → S → (β → S → Prop) → Prop}
    (hi : XI M O Γ s tg iter ra wi) (hg : XGt (M.blk scope) tg ra g L) (hL : ∀ i ∈ L, i ∈ vs) (hΓ : Γ.length = N.length)
    (ht : ∀ x s', XTs (M.blk scope) O (g x (wipeA Γ vs)) s' ifs (wt x s')) (he : ∀ x s', XE (M.blk scope) O (g x (wipeA Γ vs)) s' elt (fz rb) (we x s'))
    {HI : Hp} {C : List β → S → Prop} {Q : VK} {σ : L2.St} {F H : Hp} (st : Stt O HI Γ s σ F H) (hq : ∀ ys s' v F' H', C ys s' → Same F F' → SttV O HI Γ s' σ F' H' (ol rb ys) v → Q v H')
    (hc : wi fun xs s1 => xs.length ≤ sizeLine ∧ compW (fun x s k => wt x s fun b s1 => if b = true then we x s1 fun y s2 => k (some y) s2 else k none s1) C xs s1 []) :
    tLc (rdI M tg iter) (rdG (M.blk scope) tg) (rdTs (M.blk scope) ifs) (rdE (M.blk scope) elt) vs σ H Q := by
  refine hi HI _ _ σ F H st (fun xs s1 J F1 H1 c1 e1 st1 jk => ?_) hc
  intro D hD
  obtain ⟨hz, c1⟩ := c1
  let B := (fun (x : α) (s : S) (k : Option β → S → Prop) => wt x s fun b s1 => if b = true then we x s1 fun y s2 => k (some y) s2 else k none s1)
  let I : Nat → Hp → Prop := fun i H => ∃ (s' : S) (F' : Hp) (acc : List β) (accv : List V) (h1 h2 : HL), Same F1 F' ∧ All2 (fun x v => rb.r x v F') acc accv ∧ acc.length ≤ i ∧ Sat Γ σ F' h1 ∧ (O s').p F' h2 ∧ Ok F' ((D, .lst accv) :: (h1 ++ h2)) HI H ∧ compW B C (xs.drop i) s' acc
  refine ⟨fun i m H => m = xs.length - i ∧ i ≤ xs.length ∧ I i H, ⟨xs.length, by simp, Nat.zero_le _, ?_⟩, ?_⟩
  · obtain ⟨h1, h2, a, b, ok⟩ := st1
    exact ⟨s1, F1, [], [], h1, h2, Same.refl _, trivial, Nat.le_refl _, a, b, ok.newO hD, c1⟩
  · rintro i m H2 ⟨rfl, hi', s', F', acc, accv, h1, h2, e2, al, hl, sa, so, ok, cw⟩
    obtain ⟨j1, j2⟩ := jk F' e2 HI _ H2 ok
    by_cases hlt : i < xs.length
    · have hx : xs[i]? = some xs[i] := List.getElem?_eq_getElem hlt
      obtain ⟨jgo, jy⟩ := j1 i _ hx
      refine .inr ⟨jgo, I (i + 1), fun H' p' => ⟨xs.length - (i + 1), by omega, rfl, hlt, p'⟩, fun v H3 hy => ?_⟩
      obtain ⟨F3, e3, ok3, rv⟩ := jy v H3 hy
      rw [List.drop_eq_getElem_cons hlt] at cw
      obtain ⟨g1, g2, pm, sw, back⟩ := (sa.mono e3).takes vs
      have okp : Ok F3 ((g1 ++ h2) ++ ((D, .lst accv) :: g2)) HI H3 := ok3.perm (by
        refine (List.Perm.cons _ ?_).trans List.perm_middle.symm
        refine (pm.append_right h2).trans ?_
        rw [List.append_assoc, List.append_assoc]
        exact List.Perm.append_left g1 List.perm_append_comm)
      have stB : Stt O (Sm.hide HI ((D, .lst accv) :: g2)) (wipeA Γ vs) s' (L2.wipe σ vs) F3 H3 := ⟨g1, h2, sw, (O s').mono e3 so, okp.hide⟩
      refine hg.run O _ _ s' _ F3 H3 xs[i] v _ (by rw [wipeA_length]; exact hΓ) stB rv fun σ4 l4 o4 st4 => ?_
      have ew : L2.wipe σ4 vs = L2.wipe σ vs := by
        refine wipe_eq (l4.trans (wipe_length _ _)) fun j hj => ?_
        rw [o4 j fun z => hj (hL j z), wipe_out hj]
      have eg : ∀ x, wipeA (g x (wipeA Γ vs)) vs = wipeA Γ vs := fun x => by
        refine wipeA_eq (by rw [hg.len, wipeA_length]) fun j hj => ?_
        rw [hg.out _ _ _ fun z => hj (hL j z), wipeA_out hj]
      -- behind the turn: the slots as they stood
      have home : ∀ {s5 : S} {F5 H5 : Hp}, Same F3 F5 → Stt O (Sm.hide HI ((D, .lst accv) :: g2)) (g xs[i] (wipeA Γ vs)) s5 σ4 F5 H5 → ∃ k1 k2, Sat Γ σ F5 k1 ∧ (O s5).p F5 k2 ∧ Ok F5 ((D, .lst accv) :: (k1 ++ k2)) HI H5 := fun {s5 F5 H5} e5 ⟨q1, q2, a1, a2, a3⟩ => by
        obtain ⟨q3, sub, a4⟩ := Sat.wipe a1 vs
        rw [eg, ew] at a4
        obtain ⟨h0, p0, a5⟩ := back F5 q3 e5 a4
        refine ⟨h0, q2, a5, a2, ?_⟩
        have ok6 := okp.unhide (a3.sub (List.Sublist.append_right sub q2))
        refine ok6.perm ?_
        refine List.perm_middle.trans (List.Perm.cons _ ?_)
        refine List.Perm.trans ?_ (p0.symm.append_right q2)
        rw [List.append_assoc, List.append_assoc]
        exact List.Perm.append_left q3 List.perm_append_comm
      refine ⟨ew, ht xs[i] s' _ _ _ σ4 F3 H3 st4 (fun b s5 F5 H5 c5 e5 st5 => ?_) cw⟩
      cases b with
      | false =>
        refine iteF ?_
        have c5 := (by simpa using c5 : compW B C (xs.drop (i + 1)) s5 acc)
        obtain ⟨k1, k2, a1, a2, a3⟩ := home e5 st5
        exact ⟨s5, F5, acc, accv, k1, k2, e2.trans (e3.trans e5), al.imp fun _ _ q => rb.mono (e3.trans e5) q, by omega, a1, a2, a3, c5⟩
      | true =>
        refine iteT ?_
        have c5 := (by simpa using c5 : we xs[i] s5 fun y s2 => compW B C (xs.drop (i + 1)) s2 (acc ++ [y]))
        refine he xs[i] s5 _ _ _ σ4 F5 H5 st5 (fun y s6 u F6 H6 c6 e6 sv6 => ?_) c5
        obtain ⟨ru, st6⟩ := sv6.fz
        obtain ⟨k1, k2, a1, a2, a3⟩ := home (e5.trans e6) st6
        have e7 : Same F' F6 := e3.trans (e5.trans e6)
        refine ⟨accv, (a3.own _ List.mem_cons_self).1, ?_, ?_⟩
        · rw [← al.length]; omega
        · exact ⟨s6, F6, acc ++ [y], accv ++ [u], k1, k2, e2.trans e7, (al.imp fun _ _ q => rb.mono e7 q).append ⟨ru, trivial⟩, by rw [List.length_append, List.length_singleton]; omega, a1, a2, a3.set, c6⟩
    · have e : i = xs.length := by omega
      subst e
      rw [List.drop_length] at cw
      refine .inl ⟨j2, hq acc s' _ F' H2 cw (e1.trans e2) ⟨[(D, .lst accv)], h1, h2, ⟨D, accv, rfl, rfl, al⟩, sa, so, ok⟩⟩
theorem Stt.lenN {HI : Hp} {σ : L2.St} {F H : Hp} (h : Stt O HI Γ s σ F H) : Γ.length = σ.length := h.len
section
variable {tg iter elt : Expr} {ifs : List Expr} {scope : Scope} {pos : Pos} {L : List Nat} {g : α → Asrt → Asrt} {wi : (List α → S → Prop) → Prop} {wt : α → S → (Bool → S → Prop) → Prop} {we : α → S → (β → S → Prop) → Prop}
theorem xe_lcif (own : List (Str × Nat)) (hi : XI M O Γ s tg iter ra wi) (hg : XGt (M.blk scope) tg ra g L) (ht : ∀ x s', XTs (M.blk scope) O (g x (wipeA Γ (own.map (·.2)))) s' ifs (wt x s')) (he : ∀ x s', XE (M.blk scope) O (g x (wipeA Γ (own.map (·.2)))) s' elt (fz rb) (we x s'))
    (ok : blkC N sc scope own = true := by decide +kernel) (hL : ∀ i ∈ L, i ∈ own.map (·.2) := by decide) (hΓ : Γ.length = N.length := by rfl) (hs : ∀ env x, foldedSetIterable iter env x = pure x := by intro _ _; rfl) :
    XE M O Γ s (.ListComp elt [⟨tg, iter, ifs, 0⟩] scope pos) (ol rb) (fun k => wi fun xs s1 => xs.length ≤ sizeLine ∧ compW (fun x s k => wt x s fun b s1 => if b = true then we x s1 fun y s2 => k (some y) s2 else k none s1) k xs s1 []) := by
  intro HI C Q σ F H st hq hc
  refine ⟨_, fun i => pe_lc (own := own) (M.calm i) (by rw [M.nn]; exact M.nd) (rdI_ok i) (by rw [M.nn, M.scp]; exact blkOk_by ok) (fun s0 H0 C0 cl fp => rdG_ok (M := M.blk scope) (i, s0, H0, C0, cl, fp)) (fun s0 H0 C0 cl fp => rdTs_ok (M := M.blk scope) (i, s0, H0, C0, cl, fp)) (fun s0 H0 C0 cl fp => rdE_ok (M := M.blk scope) (i, s0, H0, C0, cl, fp)) (hs _), ?_⟩
  exact lc_run hi hg hL hΓ ht he st hq hc
theorem xe_lc (own : List (Str × Nat)) (hi : XI M O Γ s tg iter ra wi) (hg : XGt (M.blk scope) tg ra g L) (he : ∀ x s', XE (M.blk scope) O (g x (wipeA Γ (own.map (·.2)))) s' elt (fz rb) (we x s'))
    (ok : blkC N sc scope own = true := by decide +kernel) (hL : ∀ i ∈ L, i ∈ own.map (·.2) := by decide) (hΓ : Γ.length = N.length := by rfl) (hs : ∀ env x, foldedSetIterable iter env x = pure x := by intro _ _; rfl) :
    XE M O Γ s (.ListComp elt [⟨tg, iter, [], 0⟩] scope pos) (ol rb) (fun k => wi fun xs s1 => xs.length ≤ sizeLine ∧ compW (fun x s k => we x s fun y s2 => k (some y) s2) k xs s1 []) :=
  xe_lcif own hi hg (fun x s' => xts_nil) he ok hL hΓ hs
end

/-! ### statements -/
theorem sw_cell {elt : Expr} {gs : List Comprehension} {scope : Scope} {pos py : Pos} {y : Str} {l : Nat} {env : Env} (hy : (env.scope.names.lookup y == some .local) = false) : swapsWithSole [.Name y py] (.ListComp elt gs scope pos) l env = pure false := by
  have ky : (env.kindOf y == some .local) = false := hy
  show swapsWith (.ListComp elt gs scope pos) (some (.Name y py)) l env = pure false
  unfold swapsWith
  simp only [ky, Bool.and_false, Bool.false_and]
theorem xs_nil {HI F0 : Hp} {Γn : γ → Asrt} {kn : γ → S → Prop} {rt bk ct} (c : γ) (hl : Le Γ (Γn c)) : XSs M O HI F0 Γ s [] { nx := nxJ O HI F0 Γn kn, rt := rt, bk := bk, ct := ct } (kn c s) := by
  intro σ F H e st hp
  exact ⟨_, fun i => pss_nil, c, s, F, hp, e, st.le hl⟩
theorem xs_cont {HI F0 : Hp} {Γn : γ → Asrt} {kn : γ → S → Prop} {nx rt bk} {pos : Pos} {rest : List Stmt} (c : γ) (hl : Le Γ (Γn c)) : XSs M O HI F0 Γ s (.Continue pos :: rest) { nx := nx, rt := rt, bk := bk, ct := nxJ O HI F0 Γn kn } (kn c s) := by
  intro σ F H e st hp
  exact ⟨_, fun i => pss_cons ps_continue pss_never, c, s, F, hp, e, st.le hl⟩
theorem xs_brk {HI F00 F0 : Hp} {Γn : γ → Asrt} {kn : γ → S → Prop} {nx rt ct} {pos : Pos} {rest : List Stmt} (hF : Same F00 F0) (c : γ) (hl : Le Γ (Γn c)) : XSs M O HI F0 Γ s (.Break pos :: rest) { nx := nx, rt := rt, bk := nxJ O HI F00 Γn kn, ct := ct } (kn c s) := by
  intro σ F H e st hp
  exact ⟨_, fun i => pss_cons ps_break pss_never, c, s, F, hp, hF.trans e, st.le hl⟩
theorem SttV.bare {HI : Hp} {σ : L2.St} {F H : Hp} {A : VA} {v : V} (h : SttV O HI Γ s σ F H A v) : SttV O HI [] s [] F H A v := by
  obtain ⟨hv, h1, h2, a, b, c, d⟩ := h
  exact ⟨hv, [], h2, a, rfl, c, d.sub (List.Sublist.append_left (List.sublist_append_right _ _) _)⟩
theorem xs_ret {HI F00 F0 : Hp} {e : Expr} {pos : Pos} {rest : List Stmt} {W : (ρ → S → Prop) → Prop} {R : ρ → S → Prop} {nx bk ct} (hF : Same F00 F0) (he : XE M O Γ s e A W) : XSs M O HI F0 Γ s (.Return (some e) pos :: rest) { nx := nx, rt := rtJ O HI F00 A R, bk := bk, ct := ct } (W R) := by
  intro σ F H e0 st hp
  refine ⟨_, fun i => pss_cons (ps_ret (rdE_ok i)) pss_never, he HI R _ σ F H st (fun x s' v F' H' c e1 sv => ?_) hp⟩
  exact ⟨x, s', F', c, hF.trans (e0.trans e1), sv.bare⟩
/-- target = e -/
theorem xs_set {HI F0 : Hp} {D : Ends} {e : Expr} {x : Str} {p1 pos : Pos} {rest : List Stmt} {W : (ρ → S → Prop) → Prop} {Pk : ρ → S → Prop} (i : Nat) (he : XE M O Γ s e A W) (hk : ∀ y s', XSs M O HI F0 (Γ.set i (some (A y))) s' rest D (Pk y s'))
    (hN : N[i]? = some x := by rfl) (hx : Loc sc x := by first | exact Or.inl rfl | exact Or.inr rfl) (hf : fn x = true ∨ sc.names.lookup x = some .local := by first | exact Or.inl rfl | exact Or.inr rfl) (hΓ : Γ.length = N.length := by rfl)
    (hs : ∀ j, swapsWithSole [.Name x p1] e pos.line (M.X j).env = pure false := by intro _; first | rfl | exact sw_cell (by rw [Fm.scp]; decide +kernel)) (hw : ∀ j, swappedStores [.Name x p1] e (M.X j).env = pure none := by intro _; rfl) (h1 : ∀ env, (assignEach [.Name x p1] env).map (·.2) = [assign (.Name x p1) env] := by intro _; rfl) :
    XSs M O HI F0 Γ s (.Assign [.Name x p1] e pos :: rest) D (W Pk) := by
  intro σ F H e0 st hp
  have hi : i < N.length := (List.getElem?_eq_some_iff.mp hN).1
  refine ⟨_, fun j => pss_cons (ps_asg (g := gName i) (rdE_ok j) (pg_name (by rw [M.nn]; exact M.nd) (by rw [M.nn]; exact hN) (by rw [M.scp]; exact hx) (by rw [M.scp]; exact hf.imp (M.fnl j x) fun q => q)) (hs j) (hw j) (h1 _)) (rdSs_ok j), he HI Pk _ σ F H st (fun y s' v F' H' c e1 sv => ?_) hp⟩
  exact hk y s' _ F' H' (e0.trans e1) (Stt.put sv (by rw [hΓ]; exact hi)) c
/-- (a, b) = e -/
theorem xs_asg {HI F0 : Hp} {D : Ends} {tg e : Expr} {pos : Pos} {rest : List Stmt} {g : α → Asrt → Asrt} {L : List Nat} {W : (α → S → Prop) → Prop} {Pk : α → S → Prop} (he : XE M O Γ s e (fz ra) W) (hg : XGt M tg ra g L) (hk : ∀ y s', XSs M O HI F0 (g y Γ) s' rest D (Pk y s')) (hΓ : Γ.length = N.length := by rfl)
    (hs : ∀ j, swapsWithSole [tg] e pos.line (M.X j).env = pure false := by intro _; rfl) (hw : ∀ j, swappedStores [tg] e (M.X j).env = pure none := by intro _; rfl) (h1 : ∀ env, (assignEach [tg] env).map (·.2) = [assign tg env] := by intro _; rfl) :
    XSs M O HI F0 Γ s (.Assign [tg] e pos :: rest) D (W Pk) := by
  intro σ F H e0 st hp
  refine ⟨_, fun j => pss_cons (ps_asg (rdE_ok j) (rdG_ok j) (hs j) (hw j) (h1 _)) (rdSs_ok j), he HI Pk _ σ F H st (fun y s' v F' H' c e1 sv => ?_) hp⟩
  obtain ⟨rv, st'⟩ := sv.fz
  exact hg.run O HI Γ s' σ F' H' y v _ hΓ st' rv fun σ' l o st2 => hk y s' σ' F' H' (e0.trans e1) st2 c
/-- y = [elt for tg in iter if ..] -/
theorem xs_setLc {HI F0 : Hp} {D : Ends} {y : Str} {py pos pos' : Pos} {rest : List Stmt} {tg iter elt : Expr} {ifs : List Expr} {scope : Scope} {L : List Nat} {g : α → Asrt → Asrt} {wi : (List α → S → Prop) → Prop} {wt : α → S → (Bool → S → Prop) → Prop} {we : α → S → (β → S → Prop) → Prop} {Pk : List β → S → Prop}
    (i : Nat) (own : List (Str × Nat)) (hi : XI M O Γ s tg iter ra wi) (hg : XGt (M.blk scope) tg ra g L) (ht : ∀ x s', XTs (M.blk scope) O (g x (wipeA Γ (own.map (·.2)))) s' ifs (wt x s')) (he : ∀ x s', XE (M.blk scope) O (g x (wipeA Γ (own.map (·.2)))) s' elt (fz rb) (we x s'))
    (hk : ∀ z s', XSs M O HI F0 (Γ.set i (some (ol rb z))) s' rest D (Pk z s'))
    (hN : N[i]? = some y := by rfl) (hx : sc.names.lookup y = some .local := by rfl) (ok : blkC N sc scope own = true := by decide +kernel) (hL : ∀ i ∈ L, i ∈ own.map (·.2) := by decide) (hΓ : Γ.length = N.length := by rfl) (hs : ∀ env x, foldedSetIterable iter env x = pure x := by intro _ _; rfl)
    (hl : (py.line == pos.line) = true := by rfl) (ha : (scope.names.any fun (n, k) => n == y && (k == .local || k == .cell)) = false := by decide +kernel) (hkd : sc.kind = .function := by rfl) :
    XSs M O HI F0 Γ s (.Assign [.Name y py] (.ListComp elt [⟨tg, iter, ifs, 0⟩] scope pos) pos' :: rest) D (wi fun xs s1 => xs.length ≤ sizeLine ∧ compW (fun x s k => wt x s fun b s1 => if b = true then we x s1 fun y s2 => k (some y) s2 else k none s1) Pk xs s1 []) := by
  intro σ F H e0 st hp
  have hiN : i < N.length := (List.getElem?_eq_some_iff.mp hN).1
  refine ⟨_, fun j => pss_cons (ps_setLc (i := i) (own := own) (M.calm j) (by rw [M.nn]; exact M.nd) (by rw [M.nn]; exact hN) (by rw [M.scp]; exact hx) (sw_true (by rw [M.scp]; exact hkd) (by rw [M.scp]; exact hx) hl ha) (rdI_ok j) (by rw [M.nn, M.scp]; exact blkOk_by ok)
    (fun s0 H0 C0 cl fp => rdG_ok (M := M.blk scope) (j, s0, H0, C0, cl, fp)) (fun s0 H0 C0 cl fp => rdTs_ok (M := M.blk scope) (j, s0, H0, C0, cl, fp)) (fun s0 H0 C0 cl fp => rdE_ok (M := M.blk scope) (j, s0, H0, C0, cl, fp)) (hs _)) (rdSs_ok j), ?_⟩
  have q : tLc (rdI M tg iter) (rdG (M.blk scope) tg) (rdTs (M.blk scope) ifs) (rdE (M.blk scope) elt) (own.map (·.2)) σ H (fun v H' => rdSs M rest D (σ.set i (some v)) H') :=
    lc_run (C := Pk) hi hg hL hΓ ht he st (fun ys s' v F' H' c e1 sv => hk ys s' _ F' H' (e0.trans e1) (Stt.put sv (by rw [hΓ]; exact hiN)) c) hp
  exact q
theorem xs_expr {HI F0 : Hp} {D : Ends} {e : Expr} {pos : Pos} {rest : List Stmt} {W : (ρ → S → Prop) → Prop} {Pk : S → Prop} (he : XE M O Γ s e A W) (hk : ∀ s', XSs M O HI F0 Γ s' rest D (Pk s')) (hs : ∀ j, swapsWith e none pos.line (M.X j).env = pure false := by intro _; rfl) :
    XSs M O HI F0 Γ s (.Expr e pos :: rest) D (W fun _ s' => Pk s') := by
  intro σ F H e0 st hp
  refine ⟨_, fun j => pss_cons (ps_expr (rdE_ok j) (hs j)) (rdSs_ok j), he HI _ _ σ F H st (fun y s' v F' H' c e1 sv => ?_) hp⟩
  exact hk s' σ F' H' (e0.trans e1) sv.drop c
/-- an if whose first way does not come to what stands behind -/
theorem xs_if {HI F0 : Hp} {nx rt bk ct} {c : Expr} {a rest : List Stmt} {pos : Pos} {wc : (Bool → S → Prop) → Prop} {Pa Pb : S → Prop} (hc : XT M O Γ s c wc)
    (ha : ∀ nx' s', XSs M O HI F0 Γ s' a { nx := nx', rt := rt, bk := bk, ct := ct } (Pa s')) (hb : ∀ s', XSs M O HI F0 Γ s' rest { nx := nx, rt := rt, bk := bk, ct := ct } (Pb s')) :
    XSs M O HI F0 Γ s (.If c a [] pos :: rest) { nx := nx, rt := rt, bk := bk, ct := ct } (wc fun x s1 => if x = true then Pa s1 else Pb s1) := by
  intro σ F H e0 st hp
  refine ⟨_, fun j => pss_cons (ps_if (rdT_ok j) (rdSs_ok j) pss_nil) (rdSs_ok j), hc HI _ _ σ F H st (fun x s' F' H' c e1 st1 => ?_) hp⟩
  cases x with
  | true => exact iteT (ha _ s' σ F' H' (e0.trans e1) st1 (by simpa using c))
  | false => exact iteF (hb s' σ F' H' (e0.trans e1) st1 (by simpa using c))
/-- a statement, and what stands behind it by what is wanted there -/
theorem seqJ {st : Stmt} {rest : List Stmt} {D : Ends} {σ : L2.St} {H : Hp} {R : L2.St → Hp → Prop} (hR : ∀ σ' H', R σ' H' → rdSs M rest D σ' H') (h : rdS M st { nx := R, rt := D.rt, bk := D.bk, ct := D.ct } σ H) : rdSs M (st :: rest) D σ H := by
  refine ⟨tSeq (rdS M st) (fun D' σ' H' => R σ' H' ∧ D' = D), fun i => pss_cons (rdS_ok i) ⟨fun pins s σ H D' I ⟨q, e⟩ => by subst e; exact (rdSs_ok i).run pins s σ H _ I (hR _ _ q)⟩, ?_⟩
  have e : (fun σ' H' => R σ' H' ∧ D = D) = R := funext fun _ => funext fun _ => propext (and_iff_left rfl)
  show rdS M st { nx := fun σ' H' => R σ' H' ∧ D = D, rt := D.rt, bk := D.bk, ct := D.ct } σ H
  rw [e]; exact h
/-- the ways of an if meet: what stands behind is said once -/
def jn {γ S : Type} (body : (γ → S → Prop) → Prop) (kj : γ → S → Prop) : Prop := body kj
theorem xs_ifj {HI F0 : Hp} {nx rt bk ct} {c : Expr} {a b rest : List Stmt} {pos : Pos} {wc : (Bool → S → Prop) → Prop} {Pa Pb : (γ → S → Prop) → S → Prop} {Pk : γ → S → Prop} (Γj : γ → Asrt) (hc : XT M O Γ s c wc)
    (ha : ∀ kj s', XSs M O HI F0 Γ s' a { nx := nxJ O HI F0 Γj kj, rt := rt, bk := bk, ct := ct } (Pa kj s')) (hb : ∀ kj s', XSs M O HI F0 Γ s' b { nx := nxJ O HI F0 Γj kj, rt := rt, bk := bk, ct := ct } (Pb kj s'))
    (hk : ∀ z s', XSs M O HI F0 (Γj z) s' rest { nx := nx, rt := rt, bk := bk, ct := ct } (Pk z s')) :
    XSs M O HI F0 Γ s (.If c a b pos :: rest) { nx := nx, rt := rt, bk := bk, ct := ct } (jn (fun kj => wc fun x s1 => if x = true then Pa kj s1 else Pb kj s1) Pk) := by
  intro σ F H e0 st hp
  refine seqJ (R := nxJ O HI F0 Γj Pk) (fun σ' H' ⟨z, s', F', p, e, st'⟩ => hk z s' σ' F' H' e st' p) ?_
  refine ⟨_, fun j => ps_if (rdT_ok j) (rdSs_ok j) (rdSs_ok j), hc HI _ _ σ F H st (fun x s' F' H' c e1 st1 => ?_) hp⟩
  cases x with
  | true => exact iteT (ha Pk s' σ F' H' (e0.trans e1) st1 (by simpa using c))
  | false => exact iteF (hb Pk s' σ F' H' (e0.trans e1) st1 (by simpa using c))
/-- for tg in iter -/
theorem xs_for {HI F0 : Hp} {nx rt bk ct} {tg iter : Expr} {body rest : List Stmt} {pos : Pos} {g : α → Asrt → Asrt} {L : List Nat} {wi : (List α → S → Prop) → Prop} {B : α → γ → S → (γ → S → Prop) → (γ → S → Prop) → Prop} {Pk : γ → S → Prop}
    (Γi : γ → Asrt) (c0 : γ) (hi : XI M O Γ s tg iter ra wi) (hg : XGt M tg ra g L) (h0 : Le Γ (Γi c0))
    (hb : ∀ F1, Same F0 F1 → ∀ x c kn kb s', XSs M O HI F1 (g x (Γi c)) s' body { nx := nxJ O HI F1 Γi kn, rt := rt, bk := nxJ O HI F0 Γi kb, ct := nxJ O HI F1 Γi kn } (B x c s' kn kb))
    (hk : ∀ c s', XSs M O HI F0 (Γi c) s' rest { nx := nx, rt := rt, bk := bk, ct := ct } (Pk c s')) (hΓ : ∀ c, (Γi c).length = N.length := by intro _; rfl) (hs : ∀ env x, foldedSetIterable iter env x = pure x := by intro _ _; rfl) :
    XSs M O HI F0 Γ s (.For tg iter body [] pos :: rest) { nx := nx, rt := rt, bk := bk, ct := ct } (wi fun xs s1 => forB B Pk xs c0 s1) := by
  intro σ F H e0 st hp
  refine seqJ (R := nxJ O HI F0 Γi Pk) (fun σ' H' ⟨z, s', F', p, e, st'⟩ => hk z s' σ' F' H' e st' p) ?_
  refine ⟨_, fun j => ps_for (M.pass j) (M.calm j) (rdI_ok j) (rdG_ok j) (rdSs_ok j) (hs _), hi HI _ _ σ F H st (fun xs s1 J F1 H1 c1 e1 st1 jk => ?_) hp⟩
  let I : Nat → L2.St → Hp → Prop := fun i σ H => ∃ c s' F', Same F1 F' ∧ Stt O HI (Γi c) s' σ F' H ∧ forB B Pk (xs.drop i) c s'
  refine ⟨fun i m σ H => m = xs.length - i ∧ i ≤ xs.length ∧ I i σ H, ⟨xs.length, by simp, Nat.zero_le _, c0, s1, F1, Same.refl _, st1.le h0, c1⟩, ?_⟩
  rintro i m σ2 H2 ⟨rfl, hi', c, s', F', e2, st2, fw⟩
  obtain ⟨h1, h2, sa, so, ok⟩ := id st2
  obtain ⟨j1, j2⟩ := jk F' e2 HI _ H2 ok
  by_cases hlt : i < xs.length
  · have hx : xs[i]? = some xs[i] := List.getElem?_eq_getElem hlt
    obtain ⟨jgo, jy⟩ := j1 i _ hx
    rw [List.drop_eq_getElem_cons hlt] at fw
    refine .inr ⟨jgo, nxJ O HI F1 Γi (fun c' s' => forB B Pk (xs.drop (i + 1)) c' s'), fun σ' H' ⟨c', s5, F5, p5, e5, st5⟩ => ?_, fun v H3 hy => ?_⟩
    · exact ⟨xs.length - (i + 1), by omega, rfl, hlt, c', s5, F5, e5, st5, p5⟩
    · obtain ⟨F3, e3, ok3, rv⟩ := jy v H3 hy
      have st3 : Stt O HI (Γi c) s' σ2 F3 H3 := ⟨h1, h2, sa.mono e3, (O s').mono e3 so, ok3⟩
      refine hg.run O HI _ s' σ2 F3 H3 xs[i] v _ (hΓ c) st3 rv fun σ4 l4 o4 st4 => ?_
      exact hb F1 (e0.trans e1) xs[i] c _ _ s' σ4 F3 H3 (e2.trans e3) st4 fw
  · have e : i = xs.length := by omega
    subst e
    rw [List.drop_length] at fw
    exact .inl ⟨j2, c, s', F', fw, e0.trans (e1.trans e2), st2⟩
end
end Sm

set_option Elab.async false
set_option linter.all false
set_option maxRecDepth 100000
set_option maxHeartbeats 4000000
namespace Sm
open PySem PySem.Spec PyProof.Rows L2
section
variable {P : Program} {w : World} {K : PySem.W.Frag} {mg : Str → Option Value} {base : Heap} {N : List Str} {sc : Scope} {fn : Str → Bool} {k : Nat}
variable {M : Fm P w K mg base N sc fn k}
variable {S : Type} {O : S → Res} {Γ : Asrt} {s : S} {α β γ ρ : Type} {ra : RP α} {rb : RP β} {rc : RP γ} {A : ρ → VA}

theorem rdSs_mono {sts : List Stmt} {D D' : Ends} {σ : L2.St} {H : Hp} (h : rdSs M sts D σ H) (h1 : ∀ σ H, D.nx σ H → D'.nx σ H) (h2 : ∀ v H, D.rt v H → D'.rt v H) (h3 : ∀ σ H, D.bk σ H → D'.bk σ H) (h4 : ∀ σ H, D.ct σ H → D'.ct σ H) : rdSs M sts D' σ H := by
  refine ⟨fun D1 σ1 H1 => D1 = D' ∧ rdSs M sts D σ1 H1, fun i => ⟨fun pins s σ H D1 I ⟨e, q⟩ => ?_⟩, rfl, h⟩
  subst e
  refine thn ((rdSs_ok i).run pins s σ H D I q) fun f s' q => ?_
  cases f with
  | next => obtain ⟨σ', H', I', q⟩ := q; exact ⟨σ', H', I', h1 _ _ q⟩
  | brk => obtain ⟨σ', H', I', q⟩ := q; exact ⟨σ', H', I', h3 _ _ q⟩
  | cont => obtain ⟨σ', H', I', q⟩ := q; exact ⟨σ', H', I', h4 _ _ q⟩
  | ret u => obtain ⟨v, σ', H', I', r, q⟩ := q; exact ⟨v, σ', H', I', r, h2 _ _ q⟩
theorem rdE_mono {e : Expr} {σ : L2.St} {H : Hp} {Q Q' : VK} (h : rdE M e σ H Q) (hq : ∀ v H, Q v H → Q' v H) : rdE M e σ H Q' := by
  refine ⟨fun σ1 H1 Q1 => Q1 = Q' ∧ rdE M e σ1 H1 Q, fun i => ⟨fun pins s σ H Q1 I ⟨e, q⟩ => ?_⟩, rfl, h⟩
  subst e
  exact thn ((rdE_ok i).run pins s σ H Q I q) fun u s' ⟨v, H', I', r, q⟩ => ⟨v, H', I', r, hq _ _ q⟩

/-! ### of one of two kinds -/
def pS (ra : RP α) (rb : RP β) : RP (α ⊕ β) := ⟨fun x v F => match x with | .inl a => ra.r a v F | .inr b => rb.r b v F, fun {x v F F'} e h => by cases x with | inl a => exact ra.mono e h | inr b => exact rb.mono e h⟩
theorem xe_toL {e : Expr} {W : (α → S → Prop) → Prop} (h : XE M O Γ s e (fz ra) W) : XE M O Γ s e (fz (pS ra rb)) (fun k => W fun x s' => k (.inl x) s') := by
  intro HI C Q σ F H st hq hc
  refine h HI _ Q σ F H st (fun x s' v F' H' c e sv => ?_) hc
  obtain ⟨r, st'⟩ := sv.fz
  exact hq (.inl x) s' v F' H' c e (st'.val r)
theorem xe_toR {e : Expr} {W : (β → S → Prop) → Prop} (h : XE M O Γ s e (fz rb) W) : XE M O Γ s e (fz (pS ra rb)) (fun k => W fun x s' => k (.inr x) s') := by
  intro HI C Q σ F H st hq hc
  refine h HI _ Q σ F H st (fun x s' v F' H' c e sv => ?_) hc
  obtain ⟨r, st'⟩ := sv.fz
  exact hq (.inr x) s' v F' H' c e (st'.val r)
theorem xe_ofL {e : Expr} {W : (α ⊕ β → S → Prop) → Prop} (h : XE M O Γ s e (fz (pS ra rb)) W) : XE M O Γ s e (fz ra) (fun k => W fun x s' => ∃ y, x = .inl y ∧ k y s') := by
  intro HI C Q σ F H st hq hc
  refine h HI _ Q σ F H st (fun x s' v F' H' c e sv => ?_) hc
  obtain ⟨y, ey, c⟩ := c
  subst ey
  obtain ⟨r, st'⟩ := sv.fz
  exact hq y s' v F' H' c e (st'.val r)
theorem xe_ofR {e : Expr} {W : (α ⊕ β → S → Prop) → Prop} (h : XE M O Γ s e (fz (pS ra rb)) W) : XE M O Γ s e (fz rb) (fun k => W fun x s' => ∃ y, x = .inr y ∧ k y s') := by
  intro HI C Q σ F H st hq hc
  refine h HI _ Q σ F H st (fun x s' v F' H' c e sv => ?_) hc
  obtain ⟨y, ey, c⟩ := c
  subst ey
  obtain ⟨r, st'⟩ := sv.fz
  exact hq y s' v F' H' c e (st'.val r)

/-! ### owned lists in slots -/
theorem set_same {σ : L2.St} {i : Nat} {v : V} (h : σ[i]? = some (some v)) : σ.set i (some v) = σ := by
  refine List.ext_getElem? fun j => ?_
  by_cases e : i = j
  · subst e; rw [List.getElem?_set_self (List.getElem?_eq_some_iff.mp h).1, h]
  · rw [List.getElem?_set_ne e]
theorem Stt.own {HI F H : Hp} {σ : L2.St} {i : Nat} {xs : List α} (h : Stt O HI Γ s σ F H) (e : Γ[i]? = some (some (ol ra xs))) :
    ∃ a vs, σ[i]? = some (some (.ref a)) ∧ H a = some (.lst vs) ∧ All2 (fun x v => ra.r x v F) xs vs ∧ ∀ ys ws, All2 (fun x v => ra.r x v F) ys ws → Stt O HI (Γ.set i (some (ol ra ys))) s σ F (upd H a (.lst ws)) := by
  obtain ⟨h1, h2, b, c, d⟩ := h
  obtain ⟨v, g1, g2, a1, a2, ⟨a, vs, ev, eg, al⟩, back⟩ := b.at e
  subst ev eg
  have d1 := d.perm (h' := (a, .lst vs) :: (g2 ++ h2)) (a2.append_right h2)
  refine ⟨a, vs, a1, (d1.own _ List.mem_cons_self).1, al, fun ys ws al' => ?_⟩
  obtain ⟨h', p, q⟩ := back F (ol ra ys) (.ref a) [(a, .lst ws)] (Same.refl _) ⟨a, ws, rfl, rfl, al'⟩
  rw [set_same a1] at q
  exact ⟨h', h2, q, c, (d1.set (o' := .lst ws)).perm ((p.append_right h2).symm)⟩
theorem Stt.freeze {HI F H : Hp} {σ : L2.St} {i : Nat} {xs : List α} (h : Stt O HI Γ s σ F H) (e : Γ[i]? = some (some (ol ra xs))) :
    ∃ F', Same F F' ∧ Stt O HI (Γ.set i (some (fz (pL K ra) xs))) s σ F' H := by
  obtain ⟨h1, h2, b, c, d⟩ := h
  obtain ⟨v, g1, g2, a1, a2, ⟨a, vs, ev, eg, al⟩, back⟩ := b.at e
  subst ev eg
  have d1 := d.perm (h' := (a, .lst vs) :: (g2 ++ h2)) (a2.append_right h2)
  have e1 : Same F (upd F a (.lst vs)) := same_upd (d1.own _ List.mem_cons_self).2.1
  obtain ⟨h', p, q⟩ := back (upd F a (.lst vs)) (fz (pL K ra) xs) (.ref a) [] e1 ⟨rfl, a, vs, rfl, .inl (.inl upd_same), al.imp fun _ _ q => ra.mono e1 q⟩
  rw [set_same a1] at q
  exact ⟨_, e1, h', h2, q, (O s).mono e1 c, (d1.freeze).perm ((p.append_right h2).symm)⟩
theorem xs_freeze {HI F0 : Hp} {D : Ends} {sts : List Stmt} {Pf : Prop} {xs : List α} (i : Nat) (e : Γ[i]? = some (some (ol ra xs))) (h : XSs M O HI F0 (Γ.set i (some (fz (pL K ra) xs))) s sts D Pf) : XSs M O HI F0 Γ s sts D Pf := by
  intro σ F H e0 st hp
  obtain ⟨F', e1, st'⟩ := st.freeze (K := K) e
  exact h σ F' H (e0.trans e1) st' hp
/-- an owned list's name comes to its last use: it is frozen as it is read -/
theorem xe_varO {i : Nat} {x : Str} {pos : Pos} {xs : List α} (hΓ : Γ[i]? = some (some (ol ra xs))) (hN : N[i]? = some x := by rfl) (hv : Vis sc x := by first | exact Or.inl rfl | exact Or.inr (Or.inl rfl) | exact Or.inr (Or.inr rfl))
    (hd : (x == ("__debug__" : Str)) = false := by decide) (hcd : (x == ("__classdict__" : Str)) = false := by decide) :
    ∀ (HI : Hp) (C : List α → S → Prop) (Q : VK) (σ : L2.St) (F H : Hp), Stt O HI Γ s σ F H →
      (∀ x s' v F' H', C x s' → Same F F' → (pL K ra).r x v F' → Stt O HI (Γ.set i none) s' σ F' H' → Q v H') → C xs s → rdE M (.Name x pos) σ H Q := by
  intro HI C Q σ F H st hq hc
  obtain ⟨F', e1, st'⟩ := st.freeze (K := K) hΓ
  have hi : i < Γ.length := (List.getElem?_eq_some_iff.mp hΓ).1
  obtain ⟨v, e, r⟩ := st'.slot (i := i) (by rw [List.getElem?_set_self hi])
  refine ⟨tVar i, fun j => pe_var (by rw [M.nn]; exact hN) (by rw [M.scp]; exact hv) hd hcd, v, e, hq xs s v F' H hc e1 r ?_⟩
  obtain ⟨h1, h2, b, c, d⟩ := st'
  obtain ⟨h', sub, q⟩ := b.unset (s := σ[i]?.join) i
  rw [List.set_set] at q
  have es : σ.set i (σ[i]?.join) = σ := by rw [e]; exact set_same e
  rw [es] at q
  exact ⟨h', h2, q, c, d.sub (List.Sublist.append_right sub _)⟩
theorem pe_nameO {i : Nat} {x : Str} {pos : Pos} (hN : N[i]? = some x) (hv : Vis sc x) (hd : (x == ("__debug__" : Str)) = false) (hcd : (x == ("__classdict__" : Str)) = false) (j) : PE (M.X j) (.Name x pos) (tVar i) :=
  pe_var (by rw [M.nn]; exact hN) (by rw [M.scp]; exact hv) hd hcd
section
variable {HI F0 : Hp} {D : Ends} {e : Expr} {x : Str} {p1 ap cp pos : Pos} {rest : List Stmt} {xs : List α}
/-- x.append(e) -/
theorem xs_append {W : (α → S → Prop) → Prop} {Pk : α → S → Prop} (i : Nat) (hΓ : Γ[i]? = some (some (ol ra xs))) (he : XE M O Γ s e (fz ra) W) (hk : ∀ y s', XSs M O HI F0 (Γ.set i (some (ol ra (xs ++ [y])))) s' rest D (Pk y s'))
    (hN : N[i]? = some x := by rfl) (hv : Vis sc x := by first | exact Or.inl rfl | exact Or.inr (Or.inl rfl) | exact Or.inr (Or.inr rfl)) (hd : (x == ("__debug__" : Str)) = false := by decide) (hcd : (x == ("__classdict__" : Str)) = false := by decide)
    (hns : NoStar e := by intro _ _; rfl) (hfew : ∀ env, ((backTo cp (starEach [e] env)).all (fun x => !x.1) && (backToKw cp (keywordEach [] env)).all (fun x => x.1.isSome) && decide ([e].length + ([] : List Keyword).length + (if ([] : List Keyword).isEmpty then 0 else 1) < 30)) = true := by intro _; rfl)
    (hline : (ap.endLine == cp.line) = true := by rfl) (hs : ∀ j, swapsWith (.Call (.Attribute (.Name x p1) "append" ap) [e] [] cp) none pos.line (M.X j).env = pure false := by intro _; rfl) :
    XSs M O HI F0 Γ s (.Expr (.Call (.Attribute (.Name x p1) "append" ap) [e] [] cp) pos :: rest) D (W fun y s' => xs.length < sizeLine ∧ Pk y s') := by
  intro σ F H e0 st hp
  refine ⟨_, fun j => pss_cons (ps_expr (by
    have h := pe_bm (X := M.X j) (cpos := cp) PySem.F.plainAttrs_list PySem.F.slot_list_append PySem.F.type_list_append mt_append (pe_nameO (pos := p1) hN hv hd hcd j) (pa_cons (rdE_ok (M := M) j) pa_nil (hns _ _)) rfl (hfew _) hline (hns _ _) rfl
    rw [M.kf j] at h; exact h) (hs j)) (rdSs_ok j), ?_⟩
  obtain ⟨a, vs, ea, eh, al, _⟩ := st.own hΓ
  refine ⟨.ref a, ea, .inl ⟨rfl, vs, SqL.of eh⟩, ?_⟩
  refine he HI _ _ σ F H st (fun y s' u F' H' c e1 sv => ?_) hp
  obtain ⟨ru, st'⟩ := sv.fz
  obtain ⟨a', vs', ea', eh', al', up⟩ := st'.own hΓ
  rw [ea] at ea'; cases ea'
  refine ⟨a, vs', u, rfl, rfl, eh', by rw [← al'.length]; exact c.1, ?_⟩
  exact hk y s' σ F' _ (e0.trans e1) (up _ _ (al'.append ⟨ru, trivial⟩)) c.2
/-- x.extend(e), e a list that is just made -/
theorem xs_extend {W : (List α → S → Prop) → Prop} {Pk : List α → S → Prop} (i : Nat) (hΓ : Γ[i]? = some (some (ol ra xs))) (he : XE M O Γ s e (ol ra) W) (hk : ∀ y s', XSs M O HI F0 (Γ.set i (some (ol ra (xs ++ y)))) s' rest D (Pk y s'))
    (hN : N[i]? = some x := by rfl) (hv : Vis sc x := by first | exact Or.inl rfl | exact Or.inr (Or.inl rfl) | exact Or.inr (Or.inr rfl)) (hd : (x == ("__debug__" : Str)) = false := by decide) (hcd : (x == ("__classdict__" : Str)) = false := by decide)
    (hns : NoStar e := by intro _ _; rfl) (hfew : ∀ env, ((backTo cp (starEach [e] env)).all (fun x => !x.1) && (backToKw cp (keywordEach [] env)).all (fun x => x.1.isSome) && decide ([e].length + ([] : List Keyword).length + (if ([] : List Keyword).isEmpty then 0 else 1) < 30)) = true := by intro _; rfl)
    (hline : (ap.endLine == cp.line) = true := by rfl) (hs : ∀ j, swapsWith (.Call (.Attribute (.Name x p1) "extend" ap) [e] [] cp) none pos.line (M.X j).env = pure false := by intro _; rfl) :
    XSs M O HI F0 Γ s (.Expr (.Call (.Attribute (.Name x p1) "extend" ap) [e] [] cp) pos :: rest) D (W fun y s' => xs.length + y.length ≤ sizeLine ∧ Pk y s') := by
  intro σ F H e0 st hp
  refine ⟨_, fun j => pss_cons (ps_expr (by
    have h := pe_bm (X := M.X j) (cpos := cp) PySem.F.plainAttrs_list PySem.F.slot_list_extend PySem.F.type_list_extend mt_extend (pe_nameO (pos := p1) hN hv hd hcd j) (pa_cons (rdE_ok (M := M) j) pa_nil (hns _ _)) rfl (hfew _) hline (hns _ _) rfl
    rw [M.kf j] at h; exact h) (hs j)) (rdSs_ok j), ?_⟩
  obtain ⟨a, vs, ea, eh, al, _⟩ := st.own hΓ
  refine ⟨.ref a, ea, .inl ⟨rfl, vs, SqL.of eh⟩, ?_⟩
  refine he HI _ _ σ F H st (fun y s' u F' H' c e1 sv => ?_) hp
  have st' := sv.drop
  obtain ⟨hv', h1, h2, ⟨b, ws, eb, ehv, alb⟩, sa, so, ok⟩ := sv
  subst eb ehv
  obtain ⟨a', vs', ea', eh', al', up⟩ := st'.own hΓ
  rw [ea] at ea'; cases ea'
  refine ⟨a, b, vs', ws, rfl, rfl, eh', (ok.own _ List.mem_cons_self).1, by rw [← al'.length, ← alb.length]; exact c.1, ?_⟩
  exact hk y s' σ F' _ (e0.trans e1) (up _ _ (al'.append alb)) c.2
end

/-! ### a def's promise, its calls -/
def SpF {αs S ρ : Type} (ad : Type) (PA : ad → αs → List VA) (O : ad → S → Res) (A : ρ → VA) (m : αs → S → (ρ → S → Prop) → Prop) : Sp := fun vs H Q _ =>
  ∃ (a : ad) (x : αs) (s : S) (F : Hp) (HI : Hp) (h2 : HL), AllV (PA a x) vs F ∧ (O a s).p F h2 ∧ Ok F h2 HI H ∧
    ∃ C : ρ → S → Prop, (∀ y s', C y s' → ∀ v F' hv h2' H', Same F F' → (A y).p v F' hv → (O a s').p F' h2' → Ok F' (hv ++ h2') HI H' → Q v H') ∧ m x s C
theorem AllV.length {F : Hp} : ∀ {As : List VA} {vs : List V}, AllV As vs F → As.length = vs.length
  | [], [], _ => rfl
  | _ :: _, _ :: _, ⟨_, b⟩ => congrArg (· + 1) (AllV.length b)
theorem Sat.nones {F : Hp} : ∀ n : Nat, Sat (List.replicate n none) (List.replicate n none) F []
  | 0 => rfl
  | n + 1 => Sat.nones n
theorem Sat.start {F : Hp} (n : Nat) : ∀ {As : List VA} {vs : List V}, AllV As vs F → Sat (As.map some ++ List.replicate n none) (vs.map some ++ List.replicate n none) F []
  | [], [], _ => Sat.nones n
  | A :: As, v :: vs, ⟨a, b⟩ => ⟨v, [], [], rfl, rfl, a, Sat.start n b⟩
structure Has (P : Program) (w : World) (K : PySem.W.Frag) (mg : Str → Option Value) (base : Heap) (x : Str) (j : Nat) (ps : List Str) (sp : Sp) : Prop where
  ex : ∃ f fd, mg x = some (.ref f) ∧ PySem.W.keepIn K (.ref f) = true ∧ Binds K fd ps [] ∧ FnOk P w K mg base CX0 j f fd ps sp
theorem fn_ok {x qual : Str} {st : Stmt} {f : Addr} {fd : FuncData} {ps : List Str} {αs ρ ad : Type} {S : Type} {PA : ad → αs → List VA} {O : ad → S → Res} {A : ρ → VA} {m : αs → S → (ρ → S → Prop) → Prop} (F : Fun K x qual st f fd) (Sc : FnScope N ps (defScope st))
    (hlen : ∀ a x, (PA a x).length = ps.length)
    (body : ∀ (M : Fm P w K mg base N (defScope st) (fun _ => true) k) (a : ad) (x : αs) (s : S) (HI F0 : Hp) (R : ρ → S → Prop), XSs M (O a) HI F0 ((PA a x).map some ++ List.replicate (N.length - ps.length) none) s (defBody st) { nx := fun _ H' => rtJ (O a) HI F0 A R .non H', rt := rtJ (O a) HI F0 A R, bk := fun _ _ => False, ct := fun _ _ => False } (m x s R)) :
    FnOk P w K mg base CX0 (k + 1) f fd ps (SpF ad PA O A m) := by
  refine F.ok Sc (fun vs H Q E h => ?_) (fun cdv A' outer s H vs Q E hr h => ?_)
  · obtain ⟨a, x, s, F, HI, h2, av, _⟩ := h
    rw [← av.length]; exact hlen a x
  · obtain ⟨a, x, s', F', HI, h2, av, ho, ok, C, hC, hm⟩ := h
    let M : Fm P w K mg base N (defScope st) (fun _ => true) k := { ι := Unit, X := fun _ => (cxOf CX0 P w K mg base N qual (defScope st) f cdv A' outer s H E).nox, prog := fun _ => rfl, wd := fun _ => rfl, kf := fun _ => rfl, mgl := fun _ => rfl, bas := fun _ => rfl, nn := fun _ => rfl, scp := fun _ => rfl, calm := fun _ => rfl, room := fun _ => hr, pass := fun _ => PassesOwn.never, fnl := fun _ _ _ => rfl, nd := Sc.nd }
    refine ⟨rdSs M (defBody st), rdSs_ok (M := M) (), ?_⟩
    have hl : (PA a x).length = vs.length := av.length
    have fin : ∀ v H', rtJ (O a) HI F' A C v H' → Q v H' := fun v H' ⟨y, s5, F5, r5, e5, hv, h1, h2, q1, q2, q3, q4⟩ => by
      have q2 : h1 = [] := q2
      subst q2
      exact hC y s5 r5 v F5 hv h2 H' e5 q1 q3 q4
    refine rdSs_mono (body M a x s' HI F' _ (L2.start N vs) F' H (Same.refl _) ⟨[], h2, ?_, ho, ok⟩ hm) (fun _ H' q => fin _ _ q) fin (fun _ _ q => q.elim) (fun _ _ q => q.elim)
    unfold L2.start
    rw [← hl, hlen a x]
    exact Sat.start _ av
/-- a resource within a greater one -/
structure Foc {S S1 : Type} (O : S → Res) (O1 : S1 → Res) (get : S → S1) (put : S → S1 → S) : Prop where
  split : ∀ {s F h}, (O s).p F h → ∃ g1 g2 : HL, h.Perm (g1 ++ g2) ∧ (O1 (get s)).p F g1 ∧ ∀ F' s1 g1', Same F F' → (O1 s1).p F' g1' → ∃ h', h'.Perm (g1' ++ g2) ∧ (O (put s s1)).p F' h'
theorem foc_id : Foc O O (fun s => s) (fun _ s => s) := ⟨fun {s F h} q => ⟨h, [], by rw [List.append_nil], q, fun F' s1 g1' e q' => ⟨g1', by rw [List.append_nil], q'⟩⟩⟩
theorem foc_emp : Foc O (fun _ : Unit => emp) (fun _ => ()) (fun s _ => s) := ⟨fun {s F h} q => ⟨[], h, .refl _, rfl, fun F' s1 g1' e q' => by
  have q' : g1' = [] := q'
  subst q'
  exact ⟨h, .refl _, (O s).mono e q⟩⟩⟩
theorem xa_nil : XA M O Γ s [] (fun _ : Unit => []) (fun k => k () s) := by
  intro HI C Q σ F H st hq hc
  exact ⟨_, fun i => pa_nil, hq () s [] F H hc (Same.refl _) trivial st⟩
theorem xa_cons {e : Expr} {es : List Expr} {B : ρ → List VA} {wa : (α → S → Prop) → Prop} {wr : S → (ρ → S → Prop) → Prop} (ha : XE M O Γ s e (fz ra) wa) (hr : ∀ s', XA M O Γ s' es B (wr s')) (hs : NoStar e := by intro _ _; rfl) :
    XA M O Γ s (e :: es) (fun x : α × ρ => fz ra x.1 :: B x.2) (fun k => wa fun x s1 => wr s1 fun y s2 => k (x, y) s2) := by
  intro HI C Q σ F H st hq hc
  refine ⟨_, fun i => pa_cons (rdE_ok i) (rdA_ok i) (hs _ _), ha HI _ _ σ F H st (fun x s1 u F1 H1 c1 e1 sv1 => ?_) hc⟩
  obtain ⟨rx, st1⟩ := sv1.fz
  refine hr s1 HI _ _ σ F1 H1 st1 (fun y s2 vs F2 H2 c2 e2 al st2 => ?_) c1
  exact hq (x, y) s2 (u :: vs) F2 H2 c2 (e1.trans e2) ⟨⟨rfl, ra.mono e2 rx⟩, al⟩ st2
/-- a thing that stands at a known address is handed on -/
theorem xa_adr {x : Str} {p : Pos} {es : List Expr} {B : ρ → List VA} {wr : S → (ρ → S → Prop) → Prop} {i : Nat} {a : Addr} (hΓ : Γ[i]? = some (some (fz pA a))) (hr : ∀ s', XA M O Γ s' es B (wr s')) (hN : N[i]? = some x := by rfl) (hv : Vis sc x := by first | exact Or.inl rfl | exact Or.inr (Or.inl rfl) | exact Or.inr (Or.inr rfl))
    (hd : (x == ("__debug__" : Str)) = false := by decide) (hcd : (x == ("__classdict__" : Str)) = false := by decide) :
    XA M O Γ s (.Name x p :: es) (fun y => fz pA a :: B y) (wr s) := by
  intro HI C Q σ F H st hq hc
  obtain ⟨v, e, r⟩ := st.slot hΓ
  refine ⟨_, fun i => pa_cons (pe_nameO hN hv hd hcd i) (rdA_ok i) rfl, v, e, ?_⟩
  exact hr s HI C _ σ F H st (fun y s2 vs F2 H2 c2 e2 al st2 => hq y s2 (v :: vs) F2 H2 c2 e2 ⟨⟨rfl, r⟩, al⟩ st2) hc
theorem xe_call {x : Str} {j : Nat} {ps : List Str} {αs ad S1 : Type} {PA : ad → αs → List VA} {O1 : ad → S1 → Res} {m : αs → S1 → (ρ → S1 → Prop) → Prop} {p pos : Pos} {e : Expr} {es : List Expr} {A' : αs → List VA} {wa : (αs → S → Prop) → Prop} {get : S → S1} {put : S → S1 → S}
    (h : Has P w K mg base x j ps (SpF ad PA O1 A m)) (a : ad) (foc : Foc O (O1 a) get put) (ha : XA M O Γ s (e :: es) A' wa) (hj : j ≤ k := by first | decide | omega) (hg : GlN sc x := by rfl) (hA : ∀ z, A' z = PA a z := by intro _; rfl)
    (hs : NoStar e := by intro _ _; rfl) (hpl : ∀ env, (backTo pos (starEach es env)).any (·.1) = false := by intro _; rfl) (hdb : (x == ("__debug__" : Str)) = false := by decide) :
    XE M O Γ s (.Call (.Name x p) (e :: es) [] pos) A (fun k => wa fun z s1 => m z (get s1) fun y s2 => k y (put s1 s2)) := by
  intro HI C Q σ F H st hq hc
  obtain ⟨f, fd, e1, e2, e3, e4⟩ := h.ex
  refine ⟨_, fun i => pe_call (sp := SpF ad PA O1 A m) (dvs := []) (ds := []) (E := E0) (by rw [M.prog, M.wd, M.kf, M.mgl, M.bas]; exact e4) ((M.room i).mono hj) (Gl.of hg i) (by rw [M.mgl]; exact e1) (by rw [M.kf]; exact e2) (by rw [M.kf]; exact e3) .nil pass0 (rdA_ok i) hdb (hs _ _) (hpl _), ?_⟩
  refine ha HI _ _ σ F H st (fun z s1 vs F1 H1 c1 ex al st1 => ?_) hc
  rw [hA] at al
  obtain ⟨h1, h2, sa, so, ok⟩ := st1
  obtain ⟨g1, g2, pm, so1, back⟩ := foc.split so
  have okp : Ok F1 (g1 ++ (g2 ++ h1)) HI H1 := ok.perm (by
    refine (List.perm_append_comm).trans ?_
    refine (pm.append_right h1).trans ?_
    rw [List.append_assoc])
  rw [List.append_nil]
  refine ⟨a, z, get s1, F1, Sm.hide HI (g2 ++ h1), g1, al, so1, okp.hide, _, fun y s2 c v F' hv h2' H' e3 av o2 ok2 => ?_, c1⟩
  obtain ⟨h', p', q'⟩ := back F' s2 h2' e3 o2
  refine hq y (put s1 s2) v F' H' c (ex.trans e3) ⟨hv, h1, h', av, sa.mono e3, q', ?_⟩
  have ok3 := okp.unhide ok2
  refine ok3.perm ?_
  rw [List.append_assoc]
  refine List.Perm.append_left hv ?_
  refine List.Perm.trans ?_ List.perm_append_comm
  refine List.Perm.trans ?_ (p'.symm.append_right h1)
  rw [List.append_assoc]
end
end Sm

set_option Elab.async false
set_option linter.all false
set_option maxRecDepth 100000
set_option maxHeartbeats 4000000
namespace Sm
open PySem PySem.Spec PyProof.Rows L2
/-- xs[lo:hi] -/
def cutG {α : Type} (xs : List α) (lo hi : Option Int) : List α := (xs.drop (HT.sIx xs.length 0 lo)).take (HT.sIx xs.length xs.length hi - HT.sIx xs.length 0 lo)
theorem All2.cut {α : Type} {p : α → V → Prop} {xs : List α} {vs : List V} (h : All2 p xs vs) (lo hi : Option Int) : All2 p (cutG xs lo hi) (cutV vs lo hi) := by
  unfold cutG cutV
  rw [← h.length]
  exact (h.drop _).take _
theorem okT.cut {x : Text} (h : okT x) (lo hi : Option Int) : okT (cutG x lo hi) := fun c hc => h c (List.mem_of_mem_drop (List.mem_of_mem_take hc))
/-- sep.join(texts) -/
def joinT (S : Text) (ys : List Text) : Text := TL.joinL S ys
theorem joinT_ok {S : Text} (hS : okT S) : ∀ {ys : List Text}, (∀ y ∈ ys, okT y) → okT (joinT S ys)
  | [], _ => fun c hc => by cases hc
  | [y], h => h y List.mem_cons_self
  | y :: z :: r, h => (h y List.mem_cons_self).append (hS.append (joinT_ok hS (ys := z :: r) fun t ht => h t (List.mem_cons_of_mem _ ht)))
section
variable {P : Program} {w : World} {K : PySem.W.Frag} {mg : Str → Option Value} {base : Heap} {N : List Str} {sc : Scope} {fn : Str → Bool} {k : Nat}
variable {M : Fm P w K mg base N sc fn k}
variable {S : Type} {O : S → Res} {Γ : Asrt} {s : S} {α β γ ρ : Type} {ra : RP α} {rb : RP β} {rc : RP γ} {A : ρ → VA}

/-! ### in, not in -/
/-- things of this kind are told apart as flat values -/
structure Flt (r : RP α) [DecidableEq α] : Prop where
  flat : ∀ {x v F}, r.r x v F → flatV v = true
  eq : ∀ {x y u v F}, r.r x u F → r.r y v F → eqV u v = decide (x = y)
theorem fT : Flt pT := ⟨fun h => by rw [h.1]; rfl, fun {x y u v F} h1 h2 => by
  rw [h1.1, h2.1]
  show (_ == _) = _
  rw [Bool.eq_iff_iff]; simp⟩
theorem fI : Flt pI := ⟨fun {x v F} h => by rw [show v = .int x from h]; rfl, fun {x y u v F} h1 h2 => by
  rw [show u = .int x from h1, show v = .int y from h2]
  exact Bool.beq_eq_decide_eq _ _⟩
theorem Flt.all [DecidableEq α] (f : Flt ra) {F : Hp} : ∀ {xs : List α} {vs : List V}, All2 (fun x v => ra.r x v F) xs vs → vs.all flatV = true
  | [], [], _ => rfl
  | _ :: _, _ :: _, ⟨a, b⟩ => by rw [List.all_cons, f.flat a, f.all b]; rfl
theorem Flt.inV [DecidableEq α] (f : Flt ra) {F : Hp} {x : α} {u : V} (h : ra.r x u F) : ∀ {xs : List α} {vs : List V}, All2 (fun x v => ra.r x v F) xs vs → L2.inV u vs = decide (x ∈ xs)
  | [], [], _ => by simp [L2.inV]
  | y :: xs, v :: vs, ⟨a, b⟩ => by
    have ih := f.inV h b
    unfold L2.inV at ih ⊢
    rw [List.any_cons, ih, f.eq a h, Bool.eq_iff_iff]
    simp only [Bool.or_eq_true, decide_eq_true_eq, List.mem_cons]
    exact ⟨fun q => q.imp Eq.symm id, fun q => q.imp Eq.symm id⟩
theorem o_inU [DecidableEq α] (f : Flt ra) : Op2 (rIn K false) ra (pU K ra) (fz pB) (fun x xs k => k (memB x xs)) :=
  fun O HI Γ s σ F H x xs u v C Q st rx ⟨a, vs, h1, h2, h3⟩ hq hc => ⟨a, vs, h1, .inr (SqT.mono st.ok h2), f.flat rx, f.all h3, by rw [f.inV rx h3]; exact hq _ _ F H hc (Same.refl _) (st.val rfl)⟩
theorem o_inL [DecidableEq α] (f : Flt ra) : Op2 (rIn K false) ra (pL K ra) (fz pB) (fun x xs k => k (memB x xs)) :=
  fun O HI Γ s σ F H x xs u v C Q st rx ⟨a, vs, h1, h2, h3⟩ hq hc => ⟨a, vs, h1, .inl (SqL.mono st.ok h2), f.flat rx, f.all h3, by rw [f.inV rx h3]; exact hq _ _ F H hc (Same.refl _) (st.val rfl)⟩
theorem o_ninU [DecidableEq α] (f : Flt ra) : Op2 (rIn K true) ra (pU K ra) (fz pB) (fun x xs k => k (!memB x xs)) :=
  fun O HI Γ s σ F H x xs u v C Q st rx ⟨a, vs, h1, h2, h3⟩ hq hc => ⟨a, vs, h1, .inr (SqT.mono st.ok h2), f.flat rx, f.all h3, by rw [f.inV rx h3]; exact hq _ _ F H hc (Same.refl _) (st.val rfl)⟩
theorem o_ninL [DecidableEq α] (f : Flt ra) : Op2 (rIn K true) ra (pL K ra) (fz pB) (fun x xs k => k (!memB x xs)) :=
  fun O HI Γ s σ F H x xs u v C Q st rx ⟨a, vs, h1, h2, h3⟩ hq hc => ⟨a, vs, h1, .inl (SqL.mono st.ok h2), f.flat rx, f.all h3, by rw [f.inV rx h3]; exact hq _ _ F H hc (Same.refl _) (st.val rfl)⟩
section
variable [DecidableEq α] {a b : Expr} {wa : (α → S → Prop) → Prop} {wb : S → (List α → S → Prop) → Prop}
theorem xc_inU (f : Flt ra) (ha : XE M O Γ s a (fz ra) wa) (hb : ∀ s', XE M O Γ s' b (fz (pU K ra)) (wb s')) : XC M O Γ s .In a b (fun k => wa fun x s1 => wb s1 fun y s2 => k (memB x y) s2) :=
  xc_op (fun i => by have h := op_in_seq (X := M.X i); rw [M.kf i] at h; exact h) (o_inU f) ha hb
theorem xc_inL (f : Flt ra) (ha : XE M O Γ s a (fz ra) wa) (hb : ∀ s', XE M O Γ s' b (fz (pL K ra)) (wb s')) : XC M O Γ s .In a b (fun k => wa fun x s1 => wb s1 fun y s2 => k (memB x y) s2) :=
  xc_op (fun i => by have h := op_in_seq (X := M.X i); rw [M.kf i] at h; exact h) (o_inL f) ha hb
theorem xc_ninU (f : Flt ra) (ha : XE M O Γ s a (fz ra) wa) (hb : ∀ s', XE M O Γ s' b (fz (pU K ra)) (wb s')) : XC M O Γ s .NotIn a b (fun k => wa fun x s1 => wb s1 fun y s2 => k (!memB x y) s2) :=
  xc_op (fun i => by have h := op_notIn_seq (X := M.X i); rw [M.kf i] at h; exact h) (o_ninU f) ha hb
theorem xc_ninL (f : Flt ra) (ha : XE M O Γ s a (fz ra) wa) (hb : ∀ s', XE M O Γ s' b (fz (pL K ra)) (wb s')) : XC M O Γ s .NotIn a b (fun k => wa fun x s1 => wb s1 fun y s2 => k (!memB x y) s2) :=
  xc_op (fun i => by have h := op_notIn_seq (X := M.X i); rw [M.kf i] at h; exact h) (o_ninL f) ha hb
end
/-- one text within another -/
def inT (x y : Text) : Bool := !(Builtin.Str.occurrences ⟨y.toArray⟩ ⟨x.toArray⟩ 0 y.length 1).isEmpty
theorem inT_one (c : Nat) (y : Text) : inT [c] y = decide (c ∈ y) := by
  have h := PySem.StrLaws.found_one ⟨y.toArray⟩ c
  have e : (⟨y.toArray⟩ : Str).length = y.length := by simp [Str.length]
  rw [e] at h
  simpa [inT] using h
section
variable {a b : Expr} {wa : (Text → S → Prop) → Prop} {wb : S → (Text → S → Prop) → Prop} (ha : XE M O Γ s a (fz pT) wa) (hb : ∀ s', XE M O Γ s' b (fz pT) (wb s'))
include ha hb
theorem xc_inT : XC M O Γ s .In a b (fun k => wa fun x s1 => wb s1 fun y s2 => k (inT x y) s2) :=
  xc_op (ra := pT) (rb := pT) (fun i => op_in_str) (fun O HI Γ s σ F H x y u v C Q st rx ry hq (hc : C (inT x y)) => ⟨⟨x.toArray⟩, ⟨y.toArray⟩, rx.1, ry.1, by
    have e : (⟨y.toArray⟩ : Str).length = y.length := by simp [Str.length]
    rw [e]; exact hq _ _ F H hc (Same.refl _) (st.val rfl)⟩) ha hb
theorem xc_ninT : XC M O Γ s .NotIn a b (fun k => wa fun x s1 => wb s1 fun y s2 => k (!inT x y) s2) :=
  xc_op (ra := pT) (rb := pT) (fun i => op_notin_str) (fun O HI Γ s σ F H x y u v C Q st rx ry hq (hc : C (!inT x y)) => ⟨⟨x.toArray⟩, ⟨y.toArray⟩, rx.1, ry.1, by
    have e : (⟨y.toArray⟩ : Str).length = y.length := by simp [Str.length]
    rw [e]; exact hq _ _ F H hc (Same.refl _) (st.val rfl)⟩) ha hb
end
/-- is None, is not None -/
theorem xc_isN {a b : Expr} {wa : (Option α → S → Prop) → Prop} {wb : S → (Unit → S → Prop) → Prop} (ha : XE M O Γ s a (fz (pO ra)) wa) (hb : ∀ s', XE M O Γ s' b (fz pN) (wb s')) : XC M O Γ s .Is a b (fun k => wa fun x s1 => wb s1 fun _ s2 => k x.isNone s2) :=
  xc_op (fun i => op_isN) (fun O HI Γ s σ F H x y u v C Q st rx ry hq (hc : C x.isNone) => ⟨ry, hq x.isNone _ F H hc (Same.refl _) (st.val (by
    show V.bl (decide (u = .non)) = V.bl x.isNone
    cases x with
    | none => rw [show u = .non from rx]; rfl
    | some z => rw [decide_eq_false rx.1]; rfl))⟩) ha hb
theorem xc_notN {a b : Expr} {wa : (Option α → S → Prop) → Prop} {wb : S → (Unit → S → Prop) → Prop} (ha : XE M O Γ s a (fz (pO ra)) wa) (hb : ∀ s', XE M O Γ s' b (fz pN) (wb s')) : XC M O Γ s .IsNot a b (fun k => wa fun x s1 => wb s1 fun _ s2 => k x.isSome s2) :=
  xc_op (fun i => op_notN) (fun O HI Γ s σ F H x y u v C Q st rx ry hq (hc : C x.isSome) => ⟨ry, hq x.isSome _ F H hc (Same.refl _) (st.val (by
    show V.bl (!decide (u = .non)) = V.bl x.isSome
    cases x with
    | none => rw [show u = .non from rx]; rfl
    | some z => rw [decide_eq_false rx.1]; rfl))⟩) ha hb

/-! ### texts' methods -/
theorem xe_m1T {id : String} {name : Str} {ap pos : Pos} {o e : Expr} {r : V → List V → Hp → VK → Prop} {Wo : Text → β → (ρ → Prop) → Prop} {wa : (Text → S → Prop) → Prop} {wb : S → (β → S → Prop) → Prop} (slot : Slot "str" name id) (ty : typeOf (.builtin id) = pure (.type "method_descriptor")) (rule : ∀ i, MtR (M.X i) id r)
    (hr : Op2 (fun u v => r u [v]) pT rb A Wo) (ha : XE M O Γ s o (fz pT) wa) (hb : ∀ s', XE M O Γ s' e (fz rb) (wb s')) (hs : NoStar e := by intro _ _; rfl) (hbase : ∀ env, attributeBase o name env (eval o env) = eval o env := by intro _; rfl) (hline : (ap.endLine == pos.line) = true := by rfl) :
    XE M O Γ s (.Call (.Attribute o name ap) [e] [] pos) A (fun k => wa fun x s1 => wb s1 fun y s2 => Wo x y fun z => k z s2) := by
  intro HI C Q σ F H st hq hc
  refine ⟨_, fun i => pe_m1 slot ty (rule i) (rdE_ok i) (rdE_ok i) (hs _ _) (hbase _) hline, ?_⟩
  refine ha HI _ _ σ F H st (fun x s1 u F1 H1 c1 e1 sv1 => ?_) hc
  obtain ⟨rx, st1⟩ := sv1.fz
  refine ⟨⟨_, rx.1⟩, hb s1 HI _ _ σ F1 H1 st1 (fun y s2 v F2 H2 c2 e2 sv2 => ?_) c1⟩
  obtain ⟨ry, st2⟩ := sv2.fz
  exact hr O HI Γ s2 σ F2 H2 x y u v _ Q st2 rx ry (fun z v' F3 H3 c3 e3 sv => hq z s2 v' F3 H3 c3 ((e1.trans e2).trans e3) sv) c2
def cntT (x y : Text) : Int := Txt.count ⟨x.toArray⟩ ⟨y.toArray⟩
theorem cntT_one (x : Text) (c : Nat) : cntT x [c] = (x.count c : Int) := by
  unfold cntT
  have h := PyProof.Rows.count_cnt ⟨x.toArray⟩ c
  rw [show (⟨[c].toArray⟩ : Str) = ⟨#[c]⟩ from rfl, h]
  show cnt c x.toArray.toList = _
  rw [List.toList_toArray]
  clear h
  induction x with
  | nil => rfl
  | cons a r ih =>
    rw [cnt_cons, ih, List.count_cons]
    by_cases e : a = c
    · subst e; simp; omega
    · have e2 : (a == c) = false := beq_eq_false_iff_ne.mpr e
      simp [e]
section
variable {ap pos : Pos} {o e : Expr}
theorem xe_count {wa : (Text → S → Prop) → Prop} {wb : S → (Text → S → Prop) → Prop} (ha : XE M O Γ s o (fz pT) wa) (hb : ∀ s', XE M O Γ s' e (fz pT) (wb s')) (hs : NoStar e := by intro _ _; rfl) (hbase : ∀ env, attributeBase o "count" env (eval o env) = eval o env := by intro _; rfl) (hline : (ap.endLine == pos.line) = true := by rfl) :
    XE M O Γ s (.Call (.Attribute o "count" ap) [e] [] pos) (fz pI) (fun k => wa fun x s1 => wb s1 fun y s2 => k (cntT x y) s2) :=
  xe_m1T PySem.F.slot_str_count PySem.F.type_str_count (fun i => mt_count) (fun O HI Γ s σ F H x y u v C Q st rx ry hq (hc : C (cntT x y)) => ⟨⟨x.toArray⟩, ⟨y.toArray⟩, rx.1, by rw [ry.1], hq _ _ F H hc (Same.refl _) (st.val rfl)⟩) ha hb hs hbase hline
theorem strs_of {F : Hp} : ∀ {ys : List Text} {vs : List V}, All2 (fun x v => pT.r x v F) ys vs → vs = (ys.map fun y => (⟨y.toArray⟩ : Str)).map V.str ∧ ∀ y ∈ ys, okT y
  | [], [], _ => ⟨rfl, fun _ h => by cases h⟩
  | y :: ys, v :: vs, ⟨a, b⟩ => by
    obtain ⟨h1, h2⟩ := strs_of b
    refine ⟨by rw [List.map_cons, List.map_cons, ← h1, a.1], fun z hz => ?_⟩
    rcases List.mem_cons.mp hz with e | hz
    · subst e; exact a.2
    · exact h2 z hz
theorem join_len (S : Text) (ys : List Text) : ((ys.map fun y => (⟨y.toArray⟩ : Str)).map (·.length)).sum = (ys.map (·.length)).sum := by
  rw [List.map_map]
  rfl
theorem o_join {S' : Text} {ys : List Text} {u v : V} {S : Type} {O : S → Res} {HI : Hp} {Γ : Asrt} {s : S} {σ : L2.St} {F H : Hp} {C : Text → Prop} {Q : VK} (st : Stt O HI Γ s σ F H) (rx : pT.r S' u F) {vs : List V} {p : Addr} (hv : v = .ref p) (hp : SqL K H p vs ∨ SqT K H p vs) (al : All2 (fun x v => pT.r x v F) ys vs)
    (hq : ∀ z v' F' H', C z → Same F F' → SttV O HI Γ s σ F' H' (fz pT z) v' → Q v' H') (hc : (ys.map (·.length)).sum + ys.length * S'.length ≤ 16777216 ∧ C (joinT S' ys)) :
    ∃ a p, ∃ ys : List Str, u = .str a ∧ [v] = [.ref p] ∧ (SqL K H p (ys.map V.str) ∨ SqT K H p (ys.map V.str)) ∧ (ys.map (·.length)).sum + ys.length * a.length ≤ 16777216 ∧ Q (.str (Txt.join a ys)) H := by
  obtain ⟨h1, h2⟩ := strs_of al
  refine ⟨⟨S'.toArray⟩, p, ys.map fun y => (⟨y.toArray⟩ : Str), rx.1, by rw [hv], by rw [← h1]; exact hp, ?_, ?_⟩
  · rw [join_len S', List.length_map]
    have e : (⟨S'.toArray⟩ : Str).length = S'.length := by simp [Str.length]
    rw [e]; exact hc.1
  · refine hq _ _ F H hc.2 (Same.refl _) (st.val ⟨?_, joinT_ok rx.2 h2⟩)
    show V.str _ = V.str _
    congr 1
    refine TL.ext_tl ?_
    rw [TL.join_eq, TL.tl_join]
    show TL.joinL _ _ = joinT S' ys
    unfold joinT
    rw [List.map_map]
    congr 1
    rw [show (TL.tl ∘ fun (y : Text) => (⟨y.toArray⟩ : Str)) = id from funext fun y => List.toList_toArray, List.map_id]
theorem xe_joinL {wa : (Text → S → Prop) → Prop} {wb : S → (List Text → S → Prop) → Prop} (ha : XE M O Γ s o (fz pT) wa) (hb : ∀ s', XE M O Γ s' e (fz (pL K pT)) (wb s')) (hs : NoStar e := by intro _ _; rfl) (hbase : ∀ env, attributeBase o "join" env (eval o env) = eval o env := by intro _; rfl) (hline : (ap.endLine == pos.line) = true := by rfl) :
    XE M O Γ s (.Call (.Attribute o "join" ap) [e] [] pos) (fz pT) (fun k => wa fun x s1 => wb s1 fun y s2 => (y.map (·.length)).sum + y.length * x.length ≤ 16777216 ∧ k (joinT x y) s2) :=
  xe_m1T PySem.F.slot_str_join PySem.F.type_str_join (fun i => by have h := mt_join (X := M.X i); rw [M.kf i] at h; exact h) (fun O HI Γ s σ F H x y u v C Q st rx ⟨a, vs, h1, h2, h3⟩ hq hc => o_join st rx h1 (.inl (SqL.mono st.ok h2)) h3 hq hc) ha hb hs hbase hline
theorem xe_joinU {wa : (Text → S → Prop) → Prop} {wb : S → (List Text → S → Prop) → Prop} (ha : XE M O Γ s o (fz pT) wa) (hb : ∀ s', XE M O Γ s' e (fz (pU K pT)) (wb s')) (hs : NoStar e := by intro _ _; rfl) (hbase : ∀ env, attributeBase o "join" env (eval o env) = eval o env := by intro _; rfl) (hline : (ap.endLine == pos.line) = true := by rfl) :
    XE M O Γ s (.Call (.Attribute o "join" ap) [e] [] pos) (fz pT) (fun k => wa fun x s1 => wb s1 fun y s2 => (y.map (·.length)).sum + y.length * x.length ≤ 16777216 ∧ k (joinT x y) s2) :=
  xe_m1T PySem.F.slot_str_join PySem.F.type_str_join (fun i => by have h := mt_join (X := M.X i); rw [M.kf i] at h; exact h) (fun O HI Γ s σ F H x y u v C Q st rx ⟨a, vs, h1, h2, h3⟩ hq hc => o_join st rx h1 (.inr (SqT.mono st.ok h2)) h3 hq hc) ha hb hs hbase hline
end

/-! ### slices -/
def XO (M : Fm P w K mg base N sc fn k) (O : S → Res) (Γ : Asrt) (s : S) (e : Option Expr) (W : (Option Int → S → Prop) → Prop) : Prop :=
  ∀ (HI : Hp) (C : Option Int → S → Prop) (Q : Option Int → Hp → Prop) (σ : L2.St) (F H : Hp), Stt O HI Γ s σ F H →
    (∀ x s' F' H', C x s' → Same F F' → Stt O HI Γ s' σ F' H' → Q x H') → W C → rdO M e σ H Q
theorem xo_none : XO M O Γ s none (fun k => k none s) := by
  intro HI C Q σ F H st hq hc
  exact ⟨_, fun i => po_none, hq none s F H hc (Same.refl _) st⟩
theorem xo_some {e : Expr} {W : (Int → S → Prop) → Prop} (h : XE M O Γ s e (fz pI) W) : XO M O Γ s (some e) (fun k => W fun x s' => k (some x) s') := by
  intro HI C Q σ F H st hq hc
  refine ⟨_, fun i => po_some (rdE_ok i), h HI _ _ σ F H st (fun x s' v F' H' c e sv => ?_) hc⟩
  obtain ⟨r, st'⟩ := sv.fz
  exact ⟨x, r, hq (some x) s' F' H' c e st'⟩
section
variable {e : Expr} {lo hi : Option Expr} {p2 pos : Pos} {wl wh : S → (Option Int → S → Prop) → Prop}
theorem xe_cutT {wa : (Text → S → Prop) → Prop} (ha : XE M O Γ s e (fz pT) wa) (hl : ∀ s', XO M O Γ s' lo (wl s')) (hh : ∀ s', XO M O Γ s' hi (wh s')) :
    XE M O Γ s (.Subscript e (.Slice lo hi none p2) pos) (fz pT) (fun k => wa fun x s1 => wl s1 fun l s2 => wh s2 fun h s3 => x.length ≤ sizeLine ∧ k (cutG x l h) s3) := by
  intro HI C Q σ F H st hq hc
  refine ⟨_, fun i => pe_slice sl_str (rdE_ok i) (rdO_ok i) (rdO_ok i), ha HI _ _ σ F H st (fun x s1 u F1 H1 c1 e1 sv1 => ?_) hc⟩
  obtain ⟨rx, st1⟩ := sv1.fz
  refine hl s1 HI _ _ σ F1 H1 st1 (fun l s2 F2 H2 c2 e2 st2 => hh s2 HI _ _ σ F2 H2 st2 (fun h s3 F3 H3 c3 e3 st3 => ?_) c2) c1
  refine ⟨⟨x.toArray⟩, rx.1, by simpa [Str.length] using c3.1, hq _ s3 _ F3 H3 c3.2 (e1.trans (e2.trans e3)) (st3.val ⟨?_, rx.2.cut l h⟩)⟩
  show V.str _ = V.str _
  unfold cutS cutG
  simp [Str.length]
theorem xe_cutL {wa : (List α → S → Prop) → Prop} (ha : XE M O Γ s e (fz (pL K ra)) wa) (hl : ∀ s', XO M O Γ s' lo (wl s')) (hh : ∀ s', XO M O Γ s' hi (wh s')) :
    XE M O Γ s (.Subscript e (.Slice lo hi none p2) pos) (ol ra) (fun k => wa fun x s1 => wl s1 fun l s2 => wh s2 fun h s3 => k (cutG x l h) s3) := by
  intro HI C Q σ F H st hq hc
  refine ⟨tSl (rSlL K) (rdE M e) (rdO M lo) (rdO M hi), fun i => (by have h := pe_slice (X := M.X i) (pos := pos) (p2 := p2) sl_list (rdE_ok (M := M) i (e := e)) (rdO_ok (M := M) i (e := lo)) (rdO_ok (M := M) i (e := hi)); rw [M.kf i] at h; exact h), ha HI _ _ σ F H st (fun x s1 u F1 H1 c1 e1 sv1 => ?_) hc⟩
  obtain ⟨⟨a, vs, h1, h2, h3⟩, st1⟩ := sv1.fz
  refine hl s1 HI _ _ σ F1 H1 st1 (fun l s2 F2 H2 c2 e2 st2 => hh s2 HI _ _ σ F2 H2 st2 (fun h s3 F3 H3 c3 e3 st3 => ?_) c2) c1
  refine ⟨a, vs, h1, SqL.mono ((e2.trans e3).trans st3.ok) h2, fun p hp => hq _ s3 _ F3 _ c3 (e1.trans (e2.trans e3)) (st3.newV hp ⟨p, _, rfl, rfl, (h3.imp fun _ _ q => ra.mono (e2.trans e3) q).cut l h⟩)⟩
end

/-! ### lists put together; list(range(n)) -/
theorem xe_catL {a b : Expr} {pos : Pos} {wa : (List α → S → Prop) → Prop} {wb : S → (List α → S → Prop) → Prop} (ha : XE M O Γ s a (ol ra) wa) (hb : ∀ s', XE M O Γ s' b (ol ra) (wb s')) :
    XE M O Γ s (.BinOp a .Add b pos) (ol ra) (fun k => wa fun x s1 => wb s1 fun y s2 => x.length + y.length ≤ sizeLine ∧ k (x ++ y) s2) := by
  intro HI C Q σ F H st hq hc
  refine ⟨_, fun i => pe_op op_cat (rdE_ok i) (rdE_ok i), ha HI _ _ σ F H st (fun x s1 u F1 H1 c1 e1 sv1 => ?_) hc⟩
  obtain ⟨hv, h1, h2, ⟨a, vs, ev, eh, al⟩, sa, so, ok⟩ := sv1
  subst ev eh
  have ok1 := ok.freeze
  have ef : Same F1 (upd F1 a (.lst vs)) := same_upd (ok.own _ List.mem_cons_self).2.1
  refine hb s1 HI _ _ σ _ H1 ⟨h1, h2, sa.mono ef, (O s1).mono ef so, ok1⟩ (fun y s2 v F2 H2 c2 e2 sv2 => ?_) c1
  have st2 := sv2.drop
  obtain ⟨hv', k1, k2, ⟨b, ws, ev', eh', al'⟩, sa', so', ok'⟩ := sv2
  subst ev' eh'
  have al2 : All2 (fun x v => ra.r x v F2) x vs := al.imp fun _ _ q => ra.mono (ef.trans e2) q
  refine ⟨a, b, vs, ws, rfl, rfl, ok'.fz _ _ (e2 _ _ upd_same), (ok'.own _ List.mem_cons_self).1, by rw [← al.length, ← al'.length]; exact c2.1, fun p hp => ?_⟩
  exact hq _ s2 _ F2 _ c2.2 (e1.trans (ef.trans e2)) (st2.newV hp ⟨p, _, rfl, rfl, al2.append al'⟩)
theorem all2_rg (a b : Int) (F : Hp) : All2 (fun x v => pI.r x v F) (rg a (b - a).toNat) (rgV a b) := by
  unfold rg rgV
  generalize List.range (b - a).toNat = l
  induction l with
  | nil => trivial
  | cons x r ih => exact ⟨rfl, ih⟩
theorem xe_listRg1 {a : Expr} {p p' pos pos' : Pos} {wa : (Int → S → Prop) → Prop} (hm : mg "list" = none) (hm2 : mg "range" = none) (ha : XE M O Γ s a (fz pI) wa) (hg : GlN sc "list" := by rfl) (hg2 : GlN sc "range" := by rfl) (hs : NoStar a := by intro _ _; rfl) :
    XE M O Γ s (.Call (.Name "list" p) [.Call (.Name "range" p') [a] [] pos'] [] pos) (ol pI) (fun k => wa fun n s1 => RgOk 0 n ∧ k (rg 0 n.toNat) s1) := by
  intro HI C Q σ F H st hq hc
  refine ⟨_, fun i => pe_listRg (M.calm i) (Gl.of hg i) (M.none hm i) (prg_1 (Gl.of hg2 i) (M.none hm2 i) (rdE_ok i) (hs _ _)) rfl, ha HI _ _ σ F H st (fun x s1 u F1 H1 c1 e1 sv1 => ?_) hc⟩
  obtain ⟨rx, st1⟩ := sv1.fz
  refine ⟨x, rx, c1.1, fun p hp => hq _ s1 _ F1 _ c1.2 e1 (st1.newV hp ⟨p, _, rfl, rfl, ?_⟩)⟩
  have h := all2_rg 0 x F1
  rw [Int.sub_zero] at h
  exact h
/-! ### isinstance -/
/-- things of this kind are of a built-in type -/
def Isa (K : PySem.W.Frag) (ra : RP α) (T : String) : Prop := ∀ {x v F H}, Same F H → ra.r x v F → TyX K H v (.type T)
theorem isa_I : Isa K pI "int" := fun {x v F H} e h => by rw [show v = .int x from h]; exact .base (.int _)
theorem isa_B : Isa K pB "bool" := fun {x v F H} e h => by rw [show v = .bl x from h]; exact .base (.bl _)
theorem isa_T : Isa K pT "str" := fun {x v F H} e h => by rw [h.1]; exact .base (.str _)
theorem isa_U : Isa K (pU K ra) "tuple" := fun {x v F H} e ⟨a, vs, h1, h2, h3⟩ => by
  rw [h1]
  rcases h2 with (h | ⟨o, h⟩) | ⟨o, its, n, h, hc, _⟩
  · exact .base (.tup (e _ _ h))
  · exact .fTuple (e _ _ h)
  · exact .kTuple h hc
theorem isa_P : Isa K (pP K ra rb) "tuple" := fun {x v F H} e ⟨a, u1, u2, h1, h2, _⟩ => by
  rw [h1]
  rcases h2 with (h | ⟨o, h⟩) | ⟨o, its, n, h, hc, _⟩
  · exact .base (.tup (e _ _ h))
  · exact .fTuple (e _ _ h)
  · exact .kTuple h hc
theorem isa_P3 : Isa K (pP3 K ra rb rc) "tuple" := fun {x v F H} e ⟨a, u1, u2, u3, h1, h2, _⟩ => by
  rw [h1]
  rcases h2 with (h | ⟨o, h⟩) | ⟨o, its, n, h, hc, _⟩
  · exact .base (.tup (e _ _ h))
  · exact .fTuple (e _ _ h)
  · exact .kTuple h hc
theorem isa_L : Isa K (pL K ra) "list" := fun {x v F H} e ⟨a, vs, h1, h2, h3⟩ => by
  rw [h1]
  rcases h2 with (h | ⟨o, h⟩) | ⟨o, its, n, h, hc, _⟩
  · exact .base (.lst (e _ _ h))
  · exact .base (.frz (e _ _ h))
  · exact .kList h hc
theorem xe_isa {x : Str} {T U : String} {b : Bool} {e : Expr} {p p' pos : Pos} {wa : (α → S → Prop) → Prop} (hI : Isa K ra T) (hk : kitB T U = some b) (hv : bootBuiltins x = some (.type U)) (hm : mg "isinstance" = none) (hm2 : mg x = none) (ha : XE M O Γ s e (fz ra) wa) (hg : GlN sc "isinstance" := by rfl) (hg2 : GlN sc x := by rfl)
    (hn : x ≠ "__name__" := by decide) (hdb : (x == ("__debug__" : Str)) = false := by decide) (hs : NoStar e := by intro _ _; rfl) :
    XE M O Γ s (.Call (.Name "isinstance" p) [e, .Name x p'] [] pos) (fz pB) (fun k => wa fun _ s1 => k b s1) := by
  intro HI C Q σ F H st hq hc
  refine ⟨_, fun i => pe_callB (by have h := call_isi (X := M.X i); rw [M.kf i] at h; exact h) (Gl.of hg i) (M.none hm i) b_isinstance (pa_cons (rdE_ok i) (pa_cons (pe_bltn (v := .ty U) (Gl.of hg2 i) (M.none hm2 i) hv rfl hn hdb) pa_nil rfl) (hs _ _)) (by decide) (by decide) (hs _ _) rfl, ?_⟩
  refine ha HI _ _ σ F H st (fun y s1 u F1 H1 c1 e1 sv1 => ?_) hc
  obtain ⟨rx, st1⟩ := sv1.fz
  exact ⟨u, .ty U, .type T, .type U, b, rfl, .ty U, hI st1.ok rx, kit_ty hk, hq b s1 _ F1 H1 c1 e1 (st1.val rfl)⟩
end
end Sm

set_option Elab.async false
set_option linter.all false
set_option maxRecDepth 100000
set_option maxHeartbeats 4000000
namespace Sm
open PySem PySem.Spec PyProof.Rows L2
/-! ### resources -/
/-- a list at a known address -/
def resL {α : Type} (r : RP α) (a : Addr) (xs : List α) : Res := ⟨fun F h => ∃ vs, h = [(a, .lst vs)] ∧ All2 (fun x u => r.r x u F) xs vs, fun e ⟨vs, h1, h2⟩ => ⟨vs, h1, h2.imp fun _ _ q => r.mono e q⟩⟩
/-- a resource of which a part is told -/
def hidR {S1 S2 : Type} (I : S2 → S1 → Prop) (O : S1 → Res) (n : S2) : Res := ⟨fun F h => ∃ s, I n s ∧ (O s).p F h, fun e ⟨s, h1, h2⟩ => ⟨s, h1, (O s).mono e h2⟩⟩
theorem SpF.abs {αs ρ ad S1 S2 : Type} {PA : ad → αs → List VA} {O1 : ad → S1 → Res} {A : ρ → VA} {m1 : αs → S1 → (ρ → S1 → Prop) → Prop} {m2 : αs → S2 → (ρ → S2 → Prop) → Prop} {I : S2 → S1 → Prop}
    (hm : ∀ x n C, m2 x n C → ∀ s, I n s → m1 x s fun y s' => ∃ n', I n' s' ∧ C y n') {vs : List V} {H : Hp} {Q : VK} {E : XK} (h : SpF ad PA (fun a => hidR I (O1 a)) A m2 vs H Q E) : SpF ad PA O1 A m1 vs H Q E := by
  obtain ⟨a, x, n, F, HI, h2, av, ⟨s, hi, ho⟩, ok, C, hC, hw⟩ := h
  exact ⟨a, x, s, F, HI, h2, av, ho, ok, _, fun y s' ⟨n', hi', c⟩ v F' hv h2' H' e1 p1 p2 p3 => hC y n' c v F' hv h2' H' e1 p1 ⟨s', hi', p2⟩ p3, hm x n C hw s hi⟩
section
variable {P : Program} {w : World} {K : PySem.W.Frag} {mg : Str → Option Value} {base : Heap} {N : List Str} {sc : Scope} {fn : Str → Bool} {k : Nat}
variable {M : Fm P w K mg base N sc fn k}
variable {S : Type} {O : S → Res} {Γ : Asrt} {s : S} {α β γ ρ : Type} {ra : RP α} {rb : RP β} {rc : RP γ} {A : ρ → VA}
theorem Has.imp {x : Str} {j : Nat} {ps : List Str} {sp sp' : Sp} (h : Has P w K mg base x j ps sp) (hs : ∀ vs H Q E, sp' vs H Q E → sp vs H Q E) : Has P w K mg base x j ps sp' := by
  obtain ⟨f, fd, e1, e2, e3, e4⟩ := h.ex
  exact ⟨f, fd, e1, e2, e3, e4.imp hs⟩
theorem Stt.res {S1 : Type} {O1 : S1 → Res} {get : S → S1} {put : S → S1 → S} {HI F H : Hp} {σ : L2.St} (foc : Foc O O1 get put) (h : Stt O HI Γ s σ F H) : ∃ g1 g2 : HL, (O1 (get s)).p F g1 ∧ Ok F (g1 ++ g2) HI H ∧
    ∀ F' H' s1 g1', Same F F' → (O1 s1).p F' g1' → Ok F' (g1' ++ g2) HI H' → Stt O HI Γ (put s s1) σ F' H' := by
  obtain ⟨h1, h2, sa, so, ok⟩ := h
  obtain ⟨g1, g2, pm, so1, back⟩ := foc.split so
  refine ⟨g1, g2 ++ h1, so1, ok.perm ?_, fun F' H' s1 g1' e o1 ok' => ?_⟩
  · refine (List.perm_append_comm).trans ?_
    refine (pm.append_right h1).trans ?_
    rw [List.append_assoc]
  · obtain ⟨h', p', q'⟩ := back F' s1 g1' e o1
    refine ⟨h1, h', sa.mono e, q', ok'.perm ?_⟩
    rw [← List.append_assoc]
    exact (p'.symm.append_right h1).trans List.perm_append_comm
section
variable {get : S → List α} {put : S → List α → S} {a : Addr} {i : Nat} {x : Str} {p1 pos : Pos} {e e1 e2 : Expr}
/-- x[e], x at a known address -/
theorem xe_resIx {we : (Int → S → Prop) → Prop} (foc : Foc O (resL ra a) get put) (hΓ : Γ[i]? = some (some (fz pA a))) (he : XE M O Γ s e (fz pI) we) (hs : PlainIx e := by intro _ _; rfl) (hN : N[i]? = some x := by rfl) (hv : Vis sc x := by first | exact Or.inl rfl | exact Or.inr (Or.inl rfl) | exact Or.inr (Or.inr rfl))
    (hd : (x == ("__debug__" : Str)) = false := by decide) (hcd : (x == ("__classdict__" : Str)) = false := by decide) :
    XE M O Γ s (.Subscript (.Name x p1) e pos) (fz ra) (fun k => we fun j s1 => ∃ y, atI (get s1) j = some y ∧ k y s1) := by
  intro HI C Q σ F H st hq hc
  obtain ⟨v, ev, r⟩ := st.slot hΓ
  have r : v = .ref a := r
  subst r
  refine ⟨tOp (rIxL K) (tVar i) (rdE M e), fun j => (by have h := pe_ix (X := M.X j) (pos := pos) ix_list (pe_nameO (M := M) (pos := p1) hN hv hd hcd j) (rdE_ok (M := M) j (e := e)) hs; rw [M.kf j] at h; exact h), .ref a, ev, ?_⟩
  refine he HI _ _ σ F H st (fun j s1 u F1 H1 c1 e1 sv1 => ?_) hc
  obtain ⟨ru, st1⟩ := sv1.fz
  obtain ⟨y, hy, c⟩ := c1
  obtain ⟨g1, g2, ⟨vs, eg, al⟩, ok, _⟩ := st1.res foc
  subst eg
  obtain ⟨w', hw, rw'⟩ := al.at hy
  exact ⟨a, vs, j, w', rfl, ru, SqL.of (ok.own _ List.mem_cons_self).1, hw, hq y s1 w' F1 H1 c e1 (st1.val rw')⟩
/-- len(x), x at a known address -/
theorem xe_resLen {p p' : Pos} (foc : Foc O (resL ra a) get put) (hΓ : Γ[i]? = some (some (fz pA a))) (hm : mg "len" = none) (hg : GlN sc "len" := by rfl) (hN : N[i]? = some x := by rfl) (hv : Vis sc x := by first | exact Or.inl rfl | exact Or.inr (Or.inl rfl) | exact Or.inr (Or.inr rfl))
    (hd : (x == ("__debug__" : Str)) = false := by decide) (hcd : (x == ("__classdict__" : Str)) = false := by decide) :
    XE M O Γ s (.Call (.Name "len" p) [.Name x p'] [] pos) (fz pI) (fun k => k ((get s).length : Int) s) := by
  intro HI C Q σ F H st hq hc
  obtain ⟨v, ev, r⟩ := st.slot hΓ
  have r : v = .ref a := r
  subst r
  refine ⟨_, fun j => pe_callB (by have h := call_len_seq (X := M.X j); rw [M.kf j] at h; exact h) (Gl.of hg j) (M.none hm j) b_len (pa_cons (pe_nameO (M := M) (pos := p') hN hv hd hcd j) pa_nil rfl) (by decide) (by decide) rfl rfl, .ref a, ev, ?_⟩
  obtain ⟨g1, g2, ⟨vs, eg, al⟩, ok, _⟩ := st.res foc
  subst eg
  exact ⟨a, vs, rfl, .inl (SqL.of (ok.own _ List.mem_cons_self).1), hq _ s _ F H hc (Same.refl _) (st.val (by show V.int _ = V.int _; rw [al.length]))⟩
/-- x[e1] = e2, x at a known address -/
theorem xs_resSet {HI F0 : Hp} {D : Ends} {rest : List Stmt} {p2 : Pos} {w2 : (α → S → Prop) → Prop} {w1 : S → (Int → S → Prop) → Prop} {Pk : S → Prop} (foc : Foc O (resL ra a) get put) (hΓ : Γ[i]? = some (some (fz pA a))) (he2 : XE M O Γ s e2 (fz ra) w2) (he1 : ∀ s', XE M O Γ s' e1 (fz pI) (w1 s'))
    (hk : ∀ s', XSs M O HI F0 Γ s' rest D (Pk s')) (hN : N[i]? = some x := by rfl) (hv : Vis sc x := by first | exact Or.inl rfl | exact Or.inr (Or.inl rfl) | exact Or.inr (Or.inr rfl))
    (hd : (x == ("__debug__" : Str)) = false := by decide) (hcd : (x == ("__classdict__" : Str)) = false := by decide)
    (hsub : ∀ env v, assign (.Subscript (.Name x p1) e1 p2) env v = (do
      let ov ← holding [v] (eval (.Name x p1) env)
      let iv ← holding [v, ov] (eval e1 env)
      standAt p2
      holding [v, ov, iv] (setItem ov iv v)
      release [v, ov, iv] []) := by intro _ _; rfl)
    (hs : ∀ j, swapsWithSole [.Subscript (.Name x p1) e1 p2] e2 pos.line (M.X j).env = pure false := by intro _; rfl) (hw : ∀ j, swappedStores [.Subscript (.Name x p1) e1 p2] e2 (M.X j).env = pure none := by intro _; rfl) (h1 : ∀ env, (assignEach [.Subscript (.Name x p1) e1 p2] env).map (·.2) = [assign (.Subscript (.Name x p1) e1 p2) env] := by intro _; rfl) :
    XSs M O HI F0 Γ s (.Assign [.Subscript (.Name x p1) e1 p2] e2 pos :: rest) D (w2 fun y s1 => w1 s1 fun j s2 => ∃ n, ixN (get s2).length j = some n ∧ Pk (put s2 ((get s2).set n y))) := by
  intro σ F H e0 st hp
  refine ⟨_, fun j => pss_cons (ps_asg (rdE_ok j) (pg_sub (pe_nameO (M := M) (pos := p1) hN hv hd hcd j) (rdE_ok j) set_list (hsub _)) (hs j) (hw j) (h1 _)) (rdSs_ok j), ?_⟩
  refine he2 HI _ _ σ F H st (fun y s1 v F1 H1 c1 ex1 sv1 => ?_) hp
  obtain ⟨rv, st1⟩ := sv1.fz
  obtain ⟨u, eu, r⟩ := st1.slot hΓ
  have r : u = .ref a := r
  subst r
  refine ⟨.ref a, eu, ?_⟩
  refine he1 s1 HI _ _ σ F1 H1 st1 (fun j s2 iv F2 H2 c2 ex2 sv2 => ?_) c1
  obtain ⟨ri, st2⟩ := sv2.fz
  obtain ⟨n, hn, c⟩ := c2
  obtain ⟨g1, g2, ⟨vs, eg, al⟩, ok, back⟩ := st2.res foc
  subst eg
  refine ⟨a, vs, j, n, rfl, ri, (ok.own _ List.mem_cons_self).1, by rw [← al.length]; exact hn, ?_⟩
  exact hk _ σ F2 _ (e0.trans (ex1.trans ex2)) (back F2 _ _ [(a, .lst (vs.set n v))] (Same.refl _) ⟨_, rfl, al.set n (ra.mono ex2 rv)⟩ ok.set) c
end
/-- a thing made here becomes the resource -/
theorem xs_adopt0 {S1 : Type} {O1 : Addr → S1 → Res} {HI F0 : Hp} {sts : List Stmt} {B : VA} {R : ρ → Unit → Prop} {Pk : Prop} {u : Unit} (i : Nat) (s1 : S1) (hΓ : Γ[i]? = some (some B)) (hB : ∀ v F hv, B.p v F hv → ∃ a, v = .ref a ∧ (O1 a s1).p F hv)
    (hk : ∀ a, XSs M (O1 a) HI F0 (Γ.set i (some (fz pA a))) s1 sts { nx := fun _ H' => rtJ (O1 a) HI F0 A (fun y _ => R y ()) .non H', rt := rtJ (O1 a) HI F0 A (fun y _ => R y ()), bk := fun _ _ => False, ct := fun _ _ => False } Pk) :
    XSs M (fun _ : Unit => emp) HI F0 Γ u sts { nx := fun _ H' => rtJ (fun _ : Unit => emp) HI F0 A R .non H', rt := rtJ (fun _ : Unit => emp) HI F0 A R, bk := fun _ _ => False, ct := fun _ _ => False } Pk := by
  intro σ F H e0 st hp
  obtain ⟨h1, h2, sa, so, ok⟩ := st
  have so : h2 = [] := so
  subst so
  obtain ⟨v, g1, g2, ev, pm, hb, back⟩ := sa.at hΓ
  obtain ⟨a, ea, o1⟩ := hB v F g1 hb
  obtain ⟨h', p', q'⟩ := back F (fz pA a) v [] (Same.refl _) ⟨rfl, ea⟩
  rw [set_same ev] at q'
  have fin : ∀ v H', rtJ (O1 a) HI F0 A (fun y _ => R y ()) v H' → rtJ (fun _ : Unit => emp) HI F0 A R v H' := fun v H' ⟨y, s5, F5, r5, e5, hv, k1, k2, q1, q2, q3, q4⟩ =>
    ⟨y, (), F5, r5, e5, hv, k1, [], q1, q2, rfl, q4.sub (List.Sublist.append_left (List.Sublist.append_left (List.nil_sublist _) _) _)⟩
  refine rdSs_mono (hk a σ F H e0 ⟨h', g1, q', o1, ok.perm ?_⟩ hp) (fun _ H' q => fin _ _ q) fin (fun _ _ q => q.elim) (fun _ _ q => q.elim)
  rw [List.append_nil]
  refine pm.trans ?_
  refine (List.perm_append_comm).trans ?_
  exact p'.symm.append_right g1
end
end Sm
namespace Sm
open PySem PySem.Spec PyProof.Rows L2
theorem XSs.conv {P : Program} {w : World} {K : PySem.W.Frag} {mg : Str → Option Value} {base : Heap} {N : List Str} {sc : Scope} {fn : Str → Bool} {k : Nat} {M : Fm P w K mg base N sc fn k} {S : Type} {O : S → Res} {Γ : Asrt} {s : S} {HI F0 : Hp} {sts : List Stmt} {D : Ends} {Pf Pf' : Prop}
    (h : XSs M O HI F0 Γ s sts D Pf') (e : Pf → Pf') : XSs M O HI F0 Γ s sts D Pf := fun σ F H e0 st hp => h σ F H e0 st (e hp)
end Sm
namespace Sm
open PySem PySem.Spec PyProof.Rows L2
section
variable {P : Program} {w : World} {K : PySem.W.Frag} {mg : Str → Option Value} {base : Heap} {N : List Str} {sc : Scope} {fn : Str → Bool} {k : Nat}
variable {M : Fm P w K mg base N sc fn k}
variable {S : Type} {O : S → Res} {Γ : Asrt} {s : S} {α β γ ρ : Type} {ra : RP α} {rb : RP β} {rc : RP γ} {A : ρ → VA}
/-! ### and, or, if-else where the second part asks nothing -/
theorem xw_andp {a b : Expr} {rest : List Expr} {pos : Pos} {wa : (Bool → S → Prop) → Prop} {y : Bool} (ha : XT M O Γ s a wa) (hb : ∀ s', XW M O Γ s' (.BoolOp .And (b :: rest) pos) (fun k => k y s')) :
    XW M O Γ s (.BoolOp .And (a :: b :: rest) pos) (fun k => wa fun x s1 => k (x && y) s1) := by
  intro HI C Q σ F H st hq hc
  refine ⟨_, fun i => pw_and (rdT_ok i) (rdW_ok i), ha HI _ _ σ F H st (fun x s1 F1 H1 c e st1 => ?_) hc⟩
  cases x with
  | true => exact (iteT (hb s1 HI C Q σ F1 H1 st1 (fun y s2 F2 H2 c2 e2 st2 => hq y s2 F2 H2 c2 (e.trans e2) st2) (by simpa using c)) : ite _ _ _)
  | false => exact (iteF (hq false s1 F1 H1 (by simpa using c) e st1) : ite _ _ _)
theorem xw_orp {a b : Expr} {rest : List Expr} {pos : Pos} {wa : (Bool → S → Prop) → Prop} {y : Bool} (ha : XT M O Γ s a wa) (hb : ∀ s', XW M O Γ s' (.BoolOp .Or (b :: rest) pos) (fun k => k y s')) :
    XW M O Γ s (.BoolOp .Or (a :: b :: rest) pos) (fun k => wa fun x s1 => k (x || y) s1) := by
  intro HI C Q σ F H st hq hc
  refine ⟨_, fun i => pw_or (rdT_ok i) (rdW_ok i), ha HI _ _ σ F H st (fun x s1 F1 H1 c e st1 => ?_) hc⟩
  cases x with
  | true => exact (iteT (hq true s1 F1 H1 (by simpa using c) e st1) : ite _ _ _)
  | false => exact (iteF (hb s1 HI C Q σ F1 H1 st1 (fun y s2 F2 H2 c2 e2 st2 => hq y s2 F2 H2 c2 (e.trans e2) st2) (by simpa using c)) : ite _ _ _)
theorem xe_andp {a b : Expr} {rest : List Expr} {pos : Pos} {wa : (Bool → S → Prop) → Prop} {y : Bool} (ha : XE M O Γ s a (fz pB) wa) (hb : ∀ s', XE M O Γ s' (.BoolOp .And (b :: rest) pos) (fz pB) (fun k => k y s')) :
    XE M O Γ s (.BoolOp .And (a :: b :: rest) pos) (fz pB) (fun k => wa fun x s1 => k (x && y) s1) := by
  intro HI C Q σ F H st hq hc
  refine ⟨_, fun i => pe_and (rdE_ok i) (rdE_ok i), ha HI _ _ σ F H st (fun x s1 v F1 H1 c e sv1 => ?_) hc⟩
  obtain ⟨r, st1⟩ := sv1.fz
  refine ⟨x, r, ?_⟩
  cases x with
  | true => exact (iteT (hb s1 HI C Q σ F1 H1 st1 (fun y s2 v F2 H2 c2 e2 st2 => hq y s2 v F2 H2 c2 (e.trans e2) st2) (by simpa using c)) : ite _ _ _)
  | false => exact (iteF (hq false s1 _ F1 H1 (by simpa using c) e (st1.val rfl)) : ite _ _ _)
theorem xe_orp {a b : Expr} {rest : List Expr} {pos : Pos} {wa : (Bool → S → Prop) → Prop} {y : Bool} (ha : XE M O Γ s a (fz pB) wa) (hb : ∀ s', XE M O Γ s' (.BoolOp .Or (b :: rest) pos) (fz pB) (fun k => k y s')) :
    XE M O Γ s (.BoolOp .Or (a :: b :: rest) pos) (fz pB) (fun k => wa fun x s1 => k (x || y) s1) := by
  intro HI C Q σ F H st hq hc
  refine ⟨_, fun i => pe_or (rdE_ok i) (rdE_ok i), ha HI _ _ σ F H st (fun x s1 v F1 H1 c e sv1 => ?_) hc⟩
  obtain ⟨r, st1⟩ := sv1.fz
  refine ⟨x, r, ?_⟩
  cases x with
  | true => exact (iteT (hq true s1 _ F1 H1 (by simpa using c) e (st1.val rfl)) : ite _ _ _)
  | false => exact (iteF (hb s1 HI C Q σ F1 H1 st1 (fun y s2 v F2 H2 c2 e2 st2 => hq y s2 v F2 H2 c2 (e.trans e2) st2) (by simpa using c)) : ite _ _ _)
theorem xe_ifp {c a b : Expr} {pos : Pos} {wc : (Bool → S → Prop) → Prop} {x y : ρ} (hc : XT M O Γ s c wc) (ha : ∀ s', XE M O Γ s' a A (fun k => k x s')) (hb : ∀ s', XE M O Γ s' b A (fun k => k y s')) :
    XE M O Γ s (.IfExp c a b pos) A (fun k => wc fun z s1 => k (if z = true then x else y) s1) := by
  intro HI C Q σ F H st hq hw
  refine ⟨_, fun i => pe_ifExp (rdT_ok i) (rdE_ok i) (rdE_ok i), hc HI _ _ σ F H st (fun z s1 F1 H1 c e st1 => ?_) hw⟩
  cases z with
  | true => exact (iteT (ha s1 HI C Q σ F1 H1 st1 (fun y s2 v F2 H2 c2 e2 sv => hq y s2 v F2 H2 c2 (e.trans e2) sv) (by simpa using c)) : ite _ _ _)
  | false => exact (iteF (hb s1 HI C Q σ F1 H1 st1 (fun y s2 v F2 H2 c2 e2 sv => hq y s2 v F2 H2 c2 (e.trans e2) sv) (by simpa using c)) : ite _ _ _)
/-- a constant of the module -/
theorem xe_glob {x : Str} {v : V} {u : Value} {a : α} {pos : Pos} (hm : mg x = some u) (r : RelV v u) (hr : ∀ F, ra.r a v F) (hg : GlN sc x := by rfl) (hd : (x == ("__debug__" : Str)) = false := by decide) : XE M O Γ s (.Name x pos) (fz ra) (fun k => k a s) := by
  intro HI C Q σ F H st hq hc
  exact ⟨_, fun i => pe_glob (Gl.of hg i) (by rw [M.mgl]; exact hm) r hd, hq a s _ F H hc (Same.refl _) (st.val (hr F))⟩
theorem nn_I : ∀ (x : Int) F, ¬ pI.r x .non F := fun x F h => by cases (show V.non = .int x from h)
theorem nn_B : ∀ (x : Bool) F, ¬ pB.r x .non F := fun x F h => by cases (show V.non = .bl x from h)
theorem nn_T : ∀ (x : Text) F, ¬ pT.r x .non F := fun x F h => by cases h.1
theorem nn_L : ∀ (x : List α) F, ¬ (pL K ra).r x .non F := fun x F ⟨a, vs, h, _⟩ => by cases h
theorem nn_U : ∀ (x : List α) F, ¬ (pU K ra).r x .non F := fun x F ⟨a, vs, h, _⟩ => by cases h
theorem nn_P : ∀ (x : α × β) F, ¬ (pP K ra rb).r x .non F := fun x F ⟨a, u1, u2, h, _⟩ => by cases h
theorem xs_none {HI F00 F0 : Hp} {A : Unit → VA} {R : Unit → S → Prop} {rt bk ct} (hF : Same F00 F0) (hA : A = fz pN) : XSs M O HI F0 Γ s [] { nx := fun _ H' => rtJ O HI F00 A R .non H', rt := rt, bk := bk, ct := ct } (R () s) := by
  subst hA
  intro σ F H e st hp
  obtain ⟨h1, h2, sa, so, ok⟩ := st
  exact ⟨_, fun i => pss_nil, (), s, F, hp, hF.trans e, [], [], h2, ⟨rfl, rfl⟩, rfl, so, ok.sub (List.sublist_append_right _ _)⟩
end
end Sm

set_option Elab.async false
set_option linter.all false
set_option maxRecDepth 100000
set_option maxHeartbeats 4000000
namespace Sm
open PySem PySem.Spec PyProof.Rows L2
section
variable {P : Program} {w : World} {K : PySem.W.Frag} {mg : Str → Option Value} {base : Heap} {N : List Str} {sc : Scope} {fn : Str → Bool} {k : Nat}
variable {M : Fm P w K mg base N sc fn k}
variable {S : Type} {O : S → Res} {Γ : Asrt} {s : S} {α β γ ρ : Type} {ra : RP α} {rb : RP β} {rc : RP γ} {A : ρ → VA}
theorem xs_setLc0 {HI F0 : Hp} {D : Ends} {y : Str} {py pos pos' : Pos} {rest : List Stmt} {tg iter elt : Expr} {scope : Scope} {L : List Nat} {g : α → Asrt → Asrt} {wi : (List α → S → Prop) → Prop} {we : α → S → (β → S → Prop) → Prop} {Pk : List β → S → Prop}
    (i : Nat) (own : List (Str × Nat)) (hi : XI M O Γ s tg iter ra wi) (hg : XGt (M.blk scope) tg ra g L) (he : ∀ x s', XE (M.blk scope) O (g x (wipeA Γ (own.map (·.2)))) s' elt (fz rb) (we x s'))
    (hk : ∀ z s', XSs M O HI F0 (Γ.set i (some (ol rb z))) s' rest D (Pk z s'))
    (hN : N[i]? = some y := by rfl) (hx : sc.names.lookup y = some .local := by rfl) (ok : blkC N sc scope own = true := by decide +kernel) (hL : ∀ i ∈ L, i ∈ own.map (·.2) := by decide) (hΓ : Γ.length = N.length := by rfl) (hs : ∀ env x, foldedSetIterable iter env x = pure x := by intro _ _; rfl)
    (hl : (py.line == pos.line) = true := by rfl) (ha : (scope.names.any fun (n, k) => n == y && (k == .local || k == .cell)) = false := by decide +kernel) (hkd : sc.kind = .function := by rfl) :
    XSs M O HI F0 Γ s (.Assign [.Name y py] (.ListComp elt [⟨tg, iter, [], 0⟩] scope pos) pos' :: rest) D (wi fun xs s1 => xs.length ≤ sizeLine ∧ compW (fun x s k => we x s fun y s2 => k (some y) s2) Pk xs s1 []) :=
  xs_setLc i own hi hg (fun x s' => xts_nil) he hk hN hx ok hL hΓ hs hl ha hkd
/-- a list made here becomes the resource, of which a part is told -/
theorem xs_adopt {S2 : Type} {HI F0 : Hp} {sts : List Stmt} {R : ρ → Unit → Prop} {Pk : Prop} {u : Unit} {y : List α} (i : Nat) (I : S2 → List α → Prop) (n : S2) (hΓ : Γ[i]? = some (some (ol ra y)))
    (hk : ∀ a, XSs M (hidR I (resL ra a)) HI F0 (Γ.set i (some (fz pA a))) n sts { nx := fun _ H' => rtJ (hidR I (resL ra a)) HI F0 A (fun y _ => R y ()) .non H', rt := rtJ (hidR I (resL ra a)) HI F0 A (fun y _ => R y ()), bk := fun _ _ => False, ct := fun _ _ => False } Pk) :
    XSs M (fun _ : Unit => emp) HI F0 Γ u sts { nx := fun _ H' => rtJ (fun _ : Unit => emp) HI F0 A R .non H', rt := rtJ (fun _ : Unit => emp) HI F0 A R, bk := fun _ _ => False, ct := fun _ _ => False } (I n y ∧ Pk) := by
  intro σ F H e0 st hp
  exact xs_adopt0 (O1 := fun a => hidR I (resL ra a)) i n hΓ (fun v F hv ⟨a, vs, e1, e2, e3⟩ => ⟨a, e1, y, hp.1, vs, e2, e3⟩) hk σ F H e0 st hp.2
end
end Sm
namespace Sm
open PySem PySem.Spec PyProof.Rows L2
/-- where ways meet: Q is what is known there -/
theorem jn_by {γ S : Type} {body : (γ → S → Prop) → Prop} {kj : γ → S → Prop} (Q : γ → S → Prop) (h1 : ∀ kj' : γ → S → Prop, (∀ z s, Q z s → kj' z s) → body kj') (h2 : ∀ z s, Q z s → kj z s) : jn body kj := h1 kj h2
/-- a loop by an invariant -/
theorem forB_by {α γ S : Type} {B : α → γ → S → (γ → S → Prop) → (γ → S → Prop) → Prop} {k : γ → S → Prop} (I : List α → γ → S → Prop) (hk : ∀ c s, I [] c s → k c s) :
    ∀ (xs : List α) (c : γ) (s : S), I xs c s → (∀ x xs' c s, I (x :: xs') c s → ∀ kn : γ → S → Prop, (∀ c' s', I xs' c' s' → kn c' s') → B x c s kn k) → forB B k xs c s
  | [], c, s, h, _ => hk c s h
  | x :: xs, c, s, h, st => st x xs c s h _ fun c' s' q => forB_by I hk xs c' s' q st
/-- a comprehension by an invariant -/
theorem compW_by {α β S : Type} {B : α → S → (Option β → S → Prop) → Prop} {k : List β → S → Prop} (I : List α → List β → S → Prop) (hk : ∀ ys s, I [] ys s → k ys s) :
    ∀ (xs : List α) (s : S) (acc : List β), I xs acc s → (∀ x xs' acc s, I (x :: xs') acc s → ∀ kk : Option β → S → Prop, (∀ o s', I xs' (match o with | none => acc | some y => acc ++ [y]) s' → kk o s') → B x s kk) → compW B k xs s acc
  | [], s, acc, h, _ => hk acc s h
  | x :: xs, s, acc, h, st => st x xs acc s h _ fun o s' q => compW_by I hk xs s' _ q st
/-- a loop that does a sum of what it carries -/
theorem forB_foldl {α γ S : Type} {B : α → γ → S → (γ → S → Prop) → (γ → S → Prop) → Prop} {k : γ → S → Prop} (f : γ → α → γ) (Ok : γ → Prop) (xs : List α) (c : γ) (s : S) (h0 : Ok c)
    (st : ∀ x, x ∈ xs → ∀ c s (kn kb : γ → S → Prop), Ok c → (Ok (f c x) → kn (f c x) s) → B x c s kn kb) (hk : k (xs.foldl f c) s) : forB B k xs c s := by
  induction xs generalizing c with
  | nil => exact hk
  | cons x xs ih => exact st x List.mem_cons_self c s _ _ h0 fun h1 => ih _ h1 (fun y hy => st y (List.mem_cons_of_mem _ hy)) hk
theorem compW_fm {α β S : Type} {B : α → S → (Option β → S → Prop) → Prop} {k : List β → S → Prop} (f : α → Option β) (xs : List α) (s : S) (acc : List β)
    (st : ∀ x, x ∈ xs → ∀ s (kk : Option β → S → Prop), kk (f x) s → B x s kk) (hk : k (acc ++ xs.filterMap f) s) : compW B k xs s acc := by
  induction xs generalizing acc with
  | nil => rw [List.filterMap_nil, List.append_nil] at hk; exact hk
  | cons x xs ih =>
    refine st x List.mem_cons_self s _ (ih _ (fun y hy => st y (List.mem_cons_of_mem _ hy)) ?_)
    rw [List.filterMap_cons] at hk
    cases h : f x with
    | none => rw [h] at hk; exact hk
    | some y => rw [h] at hk; simpa using hk
theorem ixN_of {n : Nat} {i : Int} (h0 : 0 ≤ i) (h1 : i < n) : ixN n i = some i.toNat := by unfold ixN; rw [if_pos h0, if_pos h1]
theorem atI_of {α : Type} {xs : List α} {i : Int} (h0 : 0 ≤ i) (h1 : i < xs.length) : atI xs i = some (xs[i.toNat]'(by omega)) := by
  unfold atI; rw [ixN_of h0 h1]; exact List.getElem?_eq_getElem _
theorem atI_nat {α : Type} {xs : List α} {j : Nat} (h : j < xs.length) : atI xs (j : Int) = some xs[j] := atI_of (by omega) (by omega)
end Sm
namespace Sm
open PySem PySem.Spec PyProof.Rows L2
theorem All2.ints {F : Hp} : ∀ ns : List Int, All2 (fun x u => pI.r x u F) ns (ns.map V.int)
  | [] => trivial
  | _ :: ns => ⟨rfl, All2.ints ns⟩
/-- a law, begun with its script -/
theorem sp_law_of {K : PySem.W.Frag} {m : List Int × Unit → Unit → (Bool → Unit → Prop) → Prop} (hm : ∀ ns : List Int, ns.length ≤ 63 → m (ns, ()) () fun y _ => y = true) {a : Addr} {ns : List Int} {H : Hp} {E : XK}
    (hl : ns.length ≤ 63) (hS : SqL K H a (ns.map V.int)) : SpF Unit (fun _ (x : List Int × Unit) => [fz (pL K pI) x.1]) (fun _ _ => emp) (fz pB) m [.ref a] H (fun v _ => v = .bl true) E :=
  ⟨(), (ns, ()), (), H, fun _ => none, [], ⟨⟨rfl, a, _, rfl, hS, All2.ints ns⟩, trivial⟩, rfl, ⟨Same.refl _, fun _ h => (by cases h), List.nodup_nil, fun _ _ h => (by cases h)⟩, _, fun y s' c v F' hv h2' H' e av o ok => by
    obtain ⟨_, r⟩ := av
    rw [show v = .bl y from r, c], hm ns hl⟩
end Sm

set_option Elab.async false
set_option linter.all false
set_option maxRecDepth 100000
set_option maxHeartbeats 4000000
namespace Sm
open PySem PySem.Spec PyProof.Rows L2
/-! ### list + list, whatever stands there -/
def rCatSq (K : PySem.W.Frag) : R2 := fun x y H Q => ∃ l b xs zs, x = .ref l ∧ y = .ref b ∧ SqL K H l xs ∧ SqL K H b zs ∧ xs.length + zs.length ≤ sizeLine ∧ ∀ p, H p = none → Q (.ref p) (upd H p (.lst (xs ++ zs)))
theorem op_catSq {X : Cx} : OpR X (binaryOp .Add) (rCatSq X.K) := by
  intro pins s σ H x y v u Q I rx ry h
  obtain ⟨l, b, xs, zs, rfl, rfl, hl, hb, hz, q⟩ := h
  cases rx
  cases ry
  obtain ⟨its, r, pl, _⟩ := I.list hl
  obtain ⟨its2, r2, pl2, _⟩ := I.list hb
  have n1 := r.length
  have n2 := r2.length
  obtain ⟨⟨cls, dd, data, sl⟩, ho, hc, n, hd⟩ := pl.isList
  obtain ⟨⟨cls2, dd2, data2, sl2⟩, ho2, hc2, m, hd2⟩ := pl2.isList
  simp only at hc hd hc2 hd2
  subst hc hd hc2 hd2
  refine concat_meets ⟨_, ho, rfl⟩ ⟨_, ho2, rfl⟩ noFill_list_add seq_list_add PySem.F.slot_list_add PySem.F.entry_list_add (PySem.F.args_list_add_2 _ _) (list_addW l b its.toArray its2.toArray n m dd dd2 sl sl2 (by simp only [List.size_toArray]; omega)) ⟨ho, ho2, ?_⟩
  have ea : its.toArray ++ its2.toArray = (its ++ its2).toArray := by simp
  rw [ea]
  exact ⟨.ref _, _, I.lnew (t' := s.toks) (r.append r2) (by rw [List.length_append]; omega), rfl, q _ I.fresh⟩
/-- text * int -/
def mulT {α : Type} (x : List α) (n : Int) : List α := (List.replicate n.toNat x).flatten
def MulOk {α : Type} (x : List α) (n : Int) : Prop := x.length ≤ 1000 ∧ -1000 ≤ n ∧ n ≤ 1000
def rMulT : R2 := fun x y H Q => ∃ (a : Text) (n : Int), x = .str ⟨a.toArray⟩ ∧ y = .int n ∧ MulOk a n ∧ Q (.str ⟨(mulT a n).toArray⟩) H
theorem foldl_cat {α : Type} (x : Array α) : ∀ (n : Nat) (acc : Array α), (List.replicate n x).foldl (· ++ ·) acc = acc ++ (List.replicate n x.toList).flatten.toArray
  | 0, acc => by simp
  | n + 1, acc => by
    rw [List.replicate_succ, List.foldl_cons, foldl_cat x n, List.replicate_succ, List.flatten_cons, Array.append_assoc]
    congr 1
    apply Array.ext'
    simp
theorem op_mulT {X : Cx} : OpR X (binaryOp .Mult) rMulT := by
  intro pins s σ H x y v u Q I rx ry h
  obtain ⟨a, n, rfl, rfl, ⟨h1, h2, h3⟩, q⟩ := h
  obtain ⟨t, rfl⟩ := rx
  obtain ⟨t', rfl⟩ := ry
  have hl : (⟨a.toArray⟩ : Str).length = a.length := by simp [Str.length]
  refine PySem.P.mul_str (by rw [decide_eq_false (by omega), decide_eq_false (by omega)]; rfl) (fun g1 _ g3 => ?_) (fun g1 _ => ?_) ?_
  · rw [hl] at g3
    have : (2 ^ 63 - 1) / n ≥ 1000 := (Int.le_ediv_iff_mul_le (by omega)).mpr (by omega)
    omega
  · have hn : a.length * n.toNat ≤ 1000 * 1000 := Nat.mul_le_mul h1 (by omega)
    rw [hl]
    show decide (_ > sizeLine) = false
    exact decide_eq_false (Nat.not_lt.mpr (Nat.le_trans hn (by decide)))
  · have hz : ∀ z : Str, z = ⟨(mulT a n).toArray⟩ → EP X pins σ Q (.str z s.toks) { s with toks := s.toks + 1 } := fun z e => by
      subst e
      exact ⟨.str _, H, I.tok _, ⟨_, rfl⟩, q⟩
    by_cases g1 : n < 1
    · rw [if_pos g1]
      refine ⟨by decide, hz _ ?_⟩
      unfold mulT
      rw [show n.toNat = 0 by omega]; rfl
    · rw [if_neg g1]
      by_cases g2 : (n == 1 || (⟨a.toArray⟩ : Str).length == 0) = true
      · rw [if_pos g2]
        refine ⟨.str _, H, I, ⟨_, rfl⟩, ?_⟩
        have e : mulT a n = a := by
          unfold mulT
          rw [hl] at g2
          rcases Bool.or_eq_true_iff.mp g2 with g | g
          · rw [eq_of_beq g]; simp
          · have : a = [] := List.eq_nil_of_length_eq_zero (eq_of_beq g)
            subst this; simp
        rw [e] at q; exact q
      · rw [if_neg g2]
        have e : (List.replicate n.toNat a.toArray).foldl (· ++ ·) #[] = (mulT a n).toArray := by rw [foldl_cat]; simp [mulT]
        refine ⟨?_, hz _ (by rw [e])⟩
        show Str.length ⟨_⟩ ≤ sizeLine
        rw [e]
        show (mulT a n).toArray.size ≤ _
        have hn : a.length * n.toNat ≤ 1000 * 1000 := Nat.mul_le_mul h1 (by omega)
        rw [List.size_toArray, mulT, List.length_flatten, List.map_replicate, List.sum_replicate_nat, Nat.mul_comm]
        exact Nat.le_trans hn (by decide)
end Sm

set_option Elab.async false
set_option linter.all false
set_option maxRecDepth 100000
set_option maxHeartbeats 4000000
namespace Sm
open PySem PySem.Spec PyProof.Rows L2
section
variable {F HI H : Hp} {h h1 h2 : HL}
/-- all of it frozen -/
def frA (F : Hp) : HL → Hp
  | [] => F
  | p :: h => frA (upd F p.1 p.2) h
theorem frA_ok : ∀ {h : HL} {F : Hp}, Ok F h HI H → Ok (frA F h) [] HI H ∧ Same F (frA F h) ∧ ∀ p ∈ h, frA F h p.1 = some p.2
  | [], F, k => ⟨k, Same.refl _, fun p hp => (by cases hp)⟩
  | (a, o) :: h, F, k => by
    obtain ⟨k1, s1, m1⟩ := frA_ok k.freeze
    have e : Same F (upd F a o) := same_upd (k.own _ List.mem_cons_self).2.1
    refine ⟨k1, e.trans s1, fun p hp => ?_⟩
    rcases List.mem_cons.mp hp with rfl | hp
    · exact s1 _ _ upd_same
    · exact m1 p hp
theorem Ok.back {F' H' : Hp} {g : HL} (k : Ok F (h1 ++ h2) HI H) (e : Same (frA F h1) F') (k' : Ok F' g (Sm.hide HI h2) H') : Ok F (h1 ++ h2) HI H' := by
  obtain ⟨_, s1, m1⟩ := frA_ok k.hide
  have nd := k.nd
  rw [List.map_append] at nd
  have nd2 := (List.nodup_append.mp nd).2.1
  refine ⟨fun b x q => k'.fz _ _ (e _ _ (s1 _ _ q)), fun p hp => ?_, k.nd, fun b x q => ?_⟩
  · obtain ⟨_, a2, a3⟩ := k.own p hp
    refine ⟨?_, a2, a3⟩
    rcases List.mem_append.mp hp with hp | hp
    · exact k'.fz _ _ (e _ _ (m1 p hp))
    · exact (k'.hid p.1 p.2 (by unfold Sm.hide; rw [lookup_of_mem nd2 hp])).1
  · refine ⟨(k'.hid b x ?_).1, (k.hid b x q).2⟩
    unfold Sm.hide
    cases z : h2.lookup b with
    | none => exact q
    | some o =>
      obtain ⟨_, _, a3⟩ := k.own _ (List.mem_append_right _ (mem_of_lookup z))
      rw [a3] at q; cases q
end
/-- slots as they are looked at: what is owned is read -/
inductive Pk (K : PySem.W.Frag) : Asrt → Asrt → Prop
  | nil : Pk K [] []
  | no {Γ Δ} : Pk K Γ Δ → Pk K (none :: Γ) (none :: Δ)
  | fz {Γ Δ} {α : Type} {r : RP α} {x : α} : Pk K Γ Δ → Pk K (some (Sm.fz r x) :: Γ) (some (Sm.fz r x) :: Δ)
  | ol {Γ Δ} {α : Type} {r : RP α} {xs : List α} : Pk K Γ Δ → Pk K (some (Sm.ol r xs) :: Γ) (some (Sm.fz (pL K r) xs) :: Δ)
  | drop {Γ Δ} {A} : Pk K Γ Δ → Pk K (some A :: Γ) (none :: Δ)
theorem Pk.sat {K : PySem.W.Frag} {F F1 : Hp} (e : Same F F1) : ∀ {Γ Δ : Asrt} {σ : L2.St} {h : HL}, Pk K Γ Δ → Sat Γ σ F h → (∀ p ∈ h, F1 p.1 = some p.2) → Sat Δ σ F1 []
  | _, _, [], _, .nil, _, _ => rfl
  | _, _, _ :: σ, h, .no (Γ := Γ) (Δ := Δ) p, q, m => Pk.sat (Γ := Γ) (Δ := Δ) (σ := σ) e p q m
  | _, _, _ :: σ, _, .fz p, ⟨v, h1, h2, a, b, ⟨c1, c2⟩, d⟩, m => ⟨v, [], [], a, rfl, ⟨rfl, RP.mono _ e c2⟩, Pk.sat e p d fun p hp => m p (by rw [b]; exact List.mem_append_right _ hp)⟩
  | _, _, _ :: σ, _, .ol p, ⟨v, h1, h2, a, b, ⟨ad, vs, c1, c2, c3⟩, d⟩, m =>
    ⟨v, [], [], a, rfl, ⟨rfl, ad, vs, c1, .inl (.inl (m (ad, .lst vs) (by rw [b, c2]; exact List.mem_append_left _ List.mem_cons_self))), c3.imp fun _ _ q => RP.mono _ e q⟩, Pk.sat e p d fun p hp => m p (by rw [b]; exact List.mem_append_right _ hp)⟩
  | _, _, _ :: σ, _, .drop (Δ := Δ) p, ⟨v, h1, h2, a, b, c, d⟩, m => Pk.sat (Δ := Δ) (σ := σ) e p d fun p hp => m p (by rw [b]; exact List.mem_append_right _ hp)
section
variable {P : Program} {w : World} {K : PySem.W.Frag} {mg : Str → Option Value} {base : Heap} {N : List Str} {sc : Scope} {fn : Str → Bool} {k : Nat}
variable {M : Fm P w K mg base N sc fn k}
variable {S : Type} {O : S → Res} {Γ Δ : Asrt} {s : S} {α β γ ρ : Type} {ra : RP α} {rb : RP β} {rc : RP γ} {A : ρ → VA}
/-- what is no address, and holds none -/
def FlatR (r : RP α) : Prop := ∀ x v F F', r.r x v F → r.r x v F'
theorem fl_I : FlatR pI := fun _ _ _ _ h => h
theorem fl_B : FlatR pB := fun _ _ _ _ h => h
theorem fl_T : FlatR pT := fun _ _ _ _ h => h
theorem fl_O (h : FlatR ra) : FlatR (pO ra) := fun x v F F' q => by
  cases x with
  | none => exact q
  | some y => exact ⟨q.1, h _ _ _ _ q.2⟩
/-- an expression that only looks at what is owned -/
theorem xe_peek {e : Expr} {wd : (β → Prop) → Prop} (hp : Pk K Γ Δ) (hf : FlatR rb) (h : XE M (fun _ : Unit => emp) Δ () e (fz rb) (fun k => wd fun x => k x ())) : XE M O Γ s e (fz rb) (fun k => wd fun x => k x s) := by
  intro HI C Q σ F H st hq hc
  obtain ⟨h1, h2, sa, so, ok⟩ := st
  obtain ⟨k1, e1, m1⟩ := frA_ok ok.hide
  refine h (Sm.hide HI h2) (fun x _ => C x s) Q σ (frA F h1) H ⟨[], [], hp.sat e1 sa m1, rfl, k1⟩ (fun x s' v F' H' c e2 sv => ?_) hc
  obtain ⟨hv, g1, g2, ⟨hv0, rv⟩, _, _, ok'⟩ := sv
  exact hq x s v F H' c (Same.refl _) ⟨[], h1, h2, ⟨rfl, hf _ _ _ _ rv⟩, sa, so, ok.back e2 ok'⟩
/-! ### more of expressions -/
theorem xe_ofSome {e : Expr} {W : (Option α → S → Prop) → Prop} (h : XE M O Γ s e (fz (pO ra)) W) : XE M O Γ s e (fz ra) (fun k => W fun x s' => ∃ y, x = some y ∧ k y s') := by
  intro HI C Q σ F H st hq hc
  refine h HI _ Q σ F H st (fun x s' v F' H' c e sv => ?_) hc
  obtain ⟨y, rfl, c⟩ := c
  obtain ⟨r, st'⟩ := sv.fz
  exact hq y s' v F' H' c e (st'.val r.2)
theorem o_cat : Op2 (rCatSq K) (pL K ra) (pL K ra) (ol ra) (fun x y k => x.length + y.length ≤ sizeLine ∧ k (x ++ y)) :=
  fun O HI Γ s σ F H x y u v C Q st ⟨a, vs, e1, s1, a1⟩ ⟨b, ws, e2, s2, a2⟩ hq hc => ⟨a, b, vs, ws, e1, e2, SqL.mono st.ok s1, SqL.mono st.ok s2, by rw [← a1.length, ← a2.length]; exact hc.1, fun p hp => hq _ _ F _ hc.2 (Same.refl _) (st.newV hp ⟨p, _, rfl, rfl, a1.append a2⟩)⟩
theorem xe_cat {a b : Expr} {pos : Pos} {wa : (List α → S → Prop) → Prop} {wb : S → (List α → S → Prop) → Prop} (ha : XE M O Γ s a (fz (pL K ra)) wa) (hb : ∀ s', XE M O Γ s' b (fz (pL K ra)) (wb s')) :
    XE M O Γ s (.BinOp a .Add b pos) (ol ra) (fun k => wa fun x s1 => wb s1 fun y s2 => x.length + y.length ≤ sizeLine ∧ k (x ++ y) s2) :=
  xe_bin (fun i => by have h := op_catSq (X := M.X i); rw [M.kf i] at h; exact h) o_cat ha hb
theorem o_catU : Op2 (rCatA K) (pU K ra) (pU K ra) (fz (pU K ra)) (fun x y k => x.length + y.length ≤ sizeLine ∧ k (x ++ y)) := by
  intro S O HI Γ s σ F H x y u v C Q st ⟨a, vs, e1, s1, a1⟩ ⟨b, ws, e2, s2, a2⟩ hq hc
  refine ⟨a, b, vs, ws, e1, e2, SqT.mono st.ok s1, SqT.mono st.ok s2, by rw [← a1.length, ← a2.length]; exact hc.1, fun z => ?_, fun _ z => ?_, fun _ _ p hp => ?_⟩
  · subst z
    have : x = [] := List.eq_nil_of_length_eq_zero a1.length
    subst this
    exact hq _ _ F H hc.2 (Same.refl _) (st.val ⟨b, ws, rfl, s2, a2⟩)
  · subst z
    have : y = [] := List.eq_nil_of_length_eq_zero a2.length
    subst this
    refine hq _ _ F H hc.2 (Same.refl _) (st.val ⟨a, vs, rfl, s1, ?_⟩)
    rw [List.append_nil]; exact a1
  · obtain ⟨e3, st3⟩ := st.newF (o := .tup (vs ++ ws)) hp
    exact hq _ _ _ _ hc.2 e3 (st3.val ⟨p, _, rfl, .inl (.inl upd_same), (a1.append a2).imp fun _ _ q => ra.mono e3 q⟩)
theorem xe_catU {a b : Expr} {pos : Pos} {wa : (List α → S → Prop) → Prop} {wb : S → (List α → S → Prop) → Prop} (ha : XE M O Γ s a (fz (pU K ra)) wa) (hb : ∀ s', XE M O Γ s' b (fz (pU K ra)) (wb s')) :
    XE M O Γ s (.BinOp a .Add b pos) (fz (pU K ra)) (fun k => wa fun x s1 => wb s1 fun y s2 => x.length + y.length ≤ sizeLine ∧ k (x ++ y) s2) :=
  xe_bin (fun i => by have h := op_catA (X := M.X i); rw [M.kf i] at h; exact h) o_catU ha hb
theorem mulT_ok {x : Text} (h : okT x) (n : Int) : okT (mulT x n) := fun c hc => by
  obtain ⟨y, hy, hc⟩ := List.mem_flatten.mp hc
  rw [(List.mem_replicate.mp hy).2] at hc
  exact h c hc
theorem o_mulT : Op2 rMulT pT pI (fz pT) (fun x y k => MulOk x y ∧ k (mulT x y)) :=
  fun O HI Γ s σ F H x y u v C Q st rx ry hq hc => ⟨x, y, rx.1, ry, hc.1, hq _ _ F H hc.2 (Same.refl _) (st.val ⟨rfl, mulT_ok rx.2 _⟩)⟩
theorem xe_mulT {a b : Expr} {pos : Pos} {wa : (Text → S → Prop) → Prop} {wb : S → (Int → S → Prop) → Prop} (ha : XE M O Γ s a (fz pT) wa) (hb : ∀ s', XE M O Γ s' b (fz pI) (wb s')) :
    XE M O Γ s (.BinOp a .Mult b pos) (fz pT) (fun k => wa fun x s1 => wb s1 fun y s2 => MulOk x y ∧ k (mulT x y) s2) := xe_bin (fun i => op_mulT) o_mulT ha hb
theorem All2.reps {p : α → V → Prop} {xs : List α} {vs : List V} (h : All2 p xs vs) : ∀ n : Nat, All2 p (List.replicate n xs).flatten (List.replicate n vs).flatten
  | 0 => trivial
  | n + 1 => by
    rw [List.replicate_succ, List.replicate_succ, List.flatten_cons, List.flatten_cons]
    exact h.append (All2.reps h n)
/-- [..] * n -/
theorem xe_mulL {a b : Expr} {pos : Pos} {wa : (List α → S → Prop) → Prop} {wb : S → (Int → S → Prop) → Prop} (ha : XE M O Γ s a (ol ra) wa) (hb : ∀ s', XE M O Γ s' b (fz pI) (wb s')) :
    XE M O Γ s (.BinOp a .Mult b pos) (ol ra) (fun k => wa fun x s1 => wb s1 fun y s2 => MulOk x y ∧ k (mulT x y) s2) := by
  intro HI C Q σ F H st hq hc
  refine ⟨_, fun i => pe_op op_rep (rdE_ok i) (rdE_ok i), ha HI _ _ σ F H st (fun x s1 u F1 H1 c1 e1 sv1 => ?_) hc⟩
  obtain ⟨hv, h1, h2, ⟨a, vs, ev, eh, al⟩, sa, so, ok⟩ := sv1
  subst ev eh
  have ok1 := ok.freeze
  have ef : Same F1 (upd F1 a (.lst vs)) := same_upd (ok.own _ List.mem_cons_self).2.1
  refine hb s1 HI _ _ σ _ H1 ⟨h1, h2, sa.mono ef, (O s1).mono ef so, ok1⟩ (fun y s2 v F2 H2 c2 e2 sv2 => ?_) c1
  obtain ⟨ry, st2⟩ := sv2.fz
  obtain ⟨⟨z1, z2, z3⟩, c2⟩ := c2
  have hl : vs.length * y.toNat ≤ 1000 * 1000 := by rw [← al.length]; exact Nat.mul_le_mul z1 (by omega)
  refine ⟨a, y, vs, rfl, ry, st2.ok _ _ (e2 _ _ upd_same), by omega, by omega, Nat.le_trans hl (by decide), fun p hp => ?_⟩
  exact hq _ s2 _ F2 _ c2 (e1.trans (ef.trans e2)) (st2.newV hp ⟨p, _, rfl, rfl, All2.reps (al.imp fun _ _ q => ra.mono (ef.trans e2) q) _⟩)
/-! ### max, min, abs -/
def max2 (x y : Int) : Int := if y > x then y else x
def min2 (x y : Int) : Int := if y < x then y else x
def absI (x : Int) : Int := if x < 0 then -x else x
section
variable {p pos : Pos} {e e2 : Expr} {wa : (Int → S → Prop) → Prop} {wb : S → (Int → S → Prop) → Prop}
theorem xe_max2 (hm : mg "max" = none) (ha : XE M O Γ s e (fz pI) wa) (hb : ∀ s', XE M O Γ s' e2 (fz pI) (wb s')) (hg : GlN sc "max" := by rfl) (hs : NoStar e := by intro _ _; rfl) (hs2 : NoStar e2 := by intro _ _; rfl) :
    XE M O Γ s (.Call (.Name "max" p) [e, e2] [] pos) (fz pI) (fun k => wa fun a s1 => wb s1 fun b s2 => k (max2 a b) s2) :=
  xe_cb2 (Wo := fun a b k => k (max2 a b)) b_max (fun i => call_max2 (M.calm i)) (fun O HI Γ s σ F H x y u v C Q st rx ry hq hc => ⟨x, y, by rw [show u = V.int x from rx, show v = V.int y from ry], hq _ _ F H hc (Same.refl _) (st.val rfl)⟩) hm hg ha hb (by decide) (by decide) hs hs2
theorem xe_min2 (hm : mg "min" = none) (ha : XE M O Γ s e (fz pI) wa) (hb : ∀ s', XE M O Γ s' e2 (fz pI) (wb s')) (hg : GlN sc "min" := by rfl) (hs : NoStar e := by intro _ _; rfl) (hs2 : NoStar e2 := by intro _ _; rfl) :
    XE M O Γ s (.Call (.Name "min" p) [e, e2] [] pos) (fz pI) (fun k => wa fun a s1 => wb s1 fun b s2 => k (min2 a b) s2) :=
  xe_cb2 (Wo := fun a b k => k (min2 a b)) b_min (fun i => call_min2 (M.calm i)) (fun O HI Γ s σ F H x y u v C Q st rx ry hq hc => ⟨x, y, by rw [show u = V.int x from rx, show v = V.int y from ry], hq _ _ F H hc (Same.refl _) (st.val rfl)⟩) hm hg ha hb (by decide) (by decide) hs hs2
theorem xe_abs (hm : mg "abs" = none) (ha : XE M O Γ s e (fz pI) wa) (hg : GlN sc "abs" := by rfl) (hs : NoStar e := by intro _ _; rfl) :
    XE M O Γ s (.Call (.Name "abs" p) [e] [] pos) (fz pI) (fun k => wa fun a s1 => k (absI a) s1) :=
  xe_cb1 (Wo := fun a k => k (absI a)) b_abs (fun i => call_abs) (fun O HI Γ s σ F H x u C Q st rx hq hc => ⟨x, by rw [show u = V.int x from rx], hq _ _ F H hc (Same.refl _) (st.val rfl)⟩) hm hg ha (by decide) (by decide) hs
end
/-! ### statements -/
/-- what is never reached -/
theorem xs_never {HI F0 : Hp} {D : Ends} {sts : List Stmt} : XSs M O HI F0 Γ s sts D False := fun _ _ _ _ _ hp => hp.elim
section
variable {HI F0 : Hp} {D : Ends} {e1 e2 : Expr} {x : Str} {p1 p2 pos : Pos} {rest : List Stmt} {xs : List α}
/-- x[e1] = e2, x owned -/
theorem xs_setO {w2 : (α → S → Prop) → Prop} {w1 : S → (Int → S → Prop) → Prop} {Pk : Nat → α → S → Prop} (i : Nat) (hΓ : Γ[i]? = some (some (ol ra xs))) (he2 : XE M O Γ s e2 (fz ra) w2) (he1 : ∀ s', XE M O Γ s' e1 (fz pI) (w1 s'))
    (hk : ∀ n y s', XSs M O HI F0 (Γ.set i (some (ol ra (xs.set n y)))) s' rest D (Pk n y s')) (hN : N[i]? = some x := by rfl) (hv : Vis sc x := by first | exact Or.inl rfl | exact Or.inr (Or.inl rfl) | exact Or.inr (Or.inr rfl))
    (hd : (x == ("__debug__" : Str)) = false := by decide) (hcd : (x == ("__classdict__" : Str)) = false := by decide)
    (hsub : ∀ env v, assign (.Subscript (.Name x p1) e1 p2) env v = (do
      let ov ← holding [v] (eval (.Name x p1) env)
      let iv ← holding [v, ov] (eval e1 env)
      standAt p2
      holding [v, ov, iv] (setItem ov iv v)
      release [v, ov, iv] []) := by intro _ _; rfl)
    (hs : ∀ j, swapsWithSole [.Subscript (.Name x p1) e1 p2] e2 pos.line (M.X j).env = pure false := by intro _; rfl) (hw : ∀ j, swappedStores [.Subscript (.Name x p1) e1 p2] e2 (M.X j).env = pure none := by intro _; rfl) (h1 : ∀ env, (assignEach [.Subscript (.Name x p1) e1 p2] env).map (·.2) = [assign (.Subscript (.Name x p1) e1 p2) env] := by intro _; rfl) :
    XSs M O HI F0 Γ s (.Assign [.Subscript (.Name x p1) e1 p2] e2 pos :: rest) D (w2 fun y s1 => w1 s1 fun j s2 => ∃ n, ixN xs.length j = some n ∧ Pk n y s2) := by
  intro σ F H e0 st hp
  refine ⟨_, fun j => pss_cons (ps_asg (rdE_ok j) (pg_sub (pe_nameO (M := M) (pos := p1) hN hv hd hcd j) (rdE_ok j) set_list (hsub _)) (hs j) (hw j) (h1 _)) (rdSs_ok j), ?_⟩
  refine he2 HI _ _ σ F H st (fun y s1 v F1 H1 c1 ex1 sv1 => ?_) hp
  obtain ⟨rv, st1⟩ := sv1.fz
  obtain ⟨a, vs, ea, eh, al, _⟩ := st1.own hΓ
  refine ⟨.ref a, ea, ?_⟩
  refine he1 s1 HI _ _ σ F1 H1 st1 (fun j s2 iv F2 H2 c2 ex2 sv2 => ?_) c1
  obtain ⟨ri, st2⟩ := sv2.fz
  obtain ⟨n, hn, c⟩ := c2
  obtain ⟨a', vs', ea', eh', al', up⟩ := st2.own hΓ
  rw [ea] at ea'; cases ea'
  refine ⟨a, vs', j, n, rfl, ri, eh', by rw [← al'.length]; exact hn, ?_⟩
  exact hk n y s2 σ F2 _ (e0.trans (ex1.trans ex2)) (up _ _ (al'.set n (ra.mono ex2 rv))) c
end
end
end Sm

set_option Elab.async false
set_option linter.all false
set_option maxRecDepth 100000
set_option maxHeartbeats 4000000
namespace Sm
open PySem PySem.Spec PyProof.Rows L2
section
variable {P : Program} {w : World} {K : PySem.W.Frag} {mg : Str → Option Value} {base : Heap} {N : List Str} {sc : Scope} {fn : Str → Bool} {k : Nat}
variable {M : Fm P w K mg base N sc fn k}
variable {S S1 S2 : Type} {O : S → Res} {O1 : S1 → Res} {Γ : Asrt} {s : S} {α β γ ρ : Type} {ra : RP α} {rb : RP β} {rc : RP γ} {A : ρ → VA}
/-- x[y.pop(e1)] = e2, both owned -/
theorem xs_setPop {HI F0 : Hp} {D : Ends} {e1 e2 : Expr} {x y : Str} {p1 p2 p3 ap cp pos : Pos} {rest : List Stmt} {xs : List α} {ys : List Int} {w2 : (α → S → Prop) → Prop} {w1 : S → (Int → S → Prop) → Prop} {Pk : Nat → Nat → α → S → Prop} (i j : Nat) (hΓ : Γ[i]? = some (some (ol ra xs))) (hΓ2 : Γ[j]? = some (some (ol pI ys))) (he2 : XE M O Γ s e2 (fz ra) w2) (he1 : ∀ s', XE M O Γ s' e1 (fz pI) (w1 s'))
    (hk : ∀ m n z s', XSs M O HI F0 ((Γ.set j (some (ol pI (ys.eraseIdx m)))).set i (some (ol ra (xs.set n z)))) s' rest D (Pk m n z s')) (hij : i ≠ j := by decide) (hN : N[i]? = some x := by rfl) (hv : Vis sc x := by first | exact Or.inl rfl | exact Or.inr (Or.inl rfl) | exact Or.inr (Or.inr rfl))
    (hd : (x == ("__debug__" : Str)) = false := by decide) (hcd : (x == ("__classdict__" : Str)) = false := by decide) (hN2 : N[j]? = some y := by rfl) (hv2 : Vis sc y := by first | exact Or.inl rfl | exact Or.inr (Or.inl rfl) | exact Or.inr (Or.inr rfl))
    (hd2 : (y == ("__debug__" : Str)) = false := by decide) (hcd2 : (y == ("__classdict__" : Str)) = false := by decide) (hns : NoStar e1 := by intro _ _; rfl)
    (hfew : ∀ env, ((backTo cp (starEach [e1] env)).all (fun x => !x.1) && (backToKw cp (keywordEach [] env)).all (fun x => x.1.isSome) && decide ([e1].length + ([] : List Keyword).length + (if ([] : List Keyword).isEmpty then 0 else 1) < 30)) = true := by intro _; rfl)
    (hline : (ap.endLine == cp.line) = true := by rfl)
    (hsub : ∀ env v, assign (.Subscript (.Name x p1) (.Call (.Attribute (.Name y p3) "pop" ap) [e1] [] cp) p2) env v = (do
      let ov ← holding [v] (eval (.Name x p1) env)
      let iv ← holding [v, ov] (eval (.Call (.Attribute (.Name y p3) "pop" ap) [e1] [] cp) env)
      standAt p2
      holding [v, ov, iv] (setItem ov iv v)
      release [v, ov, iv] []) := by intro _ _; rfl)
    (hs : ∀ j, swapsWithSole [.Subscript (.Name x p1) (.Call (.Attribute (.Name y p3) "pop" ap) [e1] [] cp) p2] e2 pos.line (M.X j).env = pure false := by intro _; rfl) (hw : ∀ j, swappedStores [.Subscript (.Name x p1) (.Call (.Attribute (.Name y p3) "pop" ap) [e1] [] cp) p2] e2 (M.X j).env = pure none := by intro _; rfl)
    (h1 : ∀ env, (assignEach [.Subscript (.Name x p1) (.Call (.Attribute (.Name y p3) "pop" ap) [e1] [] cp) p2] env).map (·.2) = [assign (.Subscript (.Name x p1) (.Call (.Attribute (.Name y p3) "pop" ap) [e1] [] cp) p2) env] := by intro _; rfl) :
    XSs M O HI F0 Γ s (.Assign [.Subscript (.Name x p1) (.Call (.Attribute (.Name y p3) "pop" ap) [e1] [] cp) p2] e2 pos :: rest) D (w2 fun z s1 => w1 s1 fun q s2 => (-(2 ^ 63) ≤ q ∧ q < 2 ^ 63) ∧ ∃ m, ixN ys.length q = some m ∧ ∃ t, ys[m]? = some t ∧ ∃ n, ixN xs.length t = some n ∧ Pk m n z s2) := by
  intro σ F H e0 st hp
  refine ⟨_, fun j => pss_cons (ps_asg (rdE_ok j) (pg_sub (pe_nameO (M := M) (pos := p1) hN hv hd hcd j) (by
    have h := pe_bm (X := M.X j) (cpos := cp) PySem.F.plainAttrs_list PySem.F.slot_list_pop PySem.F.type_list_pop mt_popAt (pe_nameO (pos := p3) hN2 hv2 hd2 hcd2 j) (pa_cons (rdE_ok (M := M) j) pa_nil (hns _ _)) rfl (hfew _) hline (hns _ _) rfl
    rw [M.kf j] at h; exact h) set_list (hsub _)) (hs j) (hw j) (h1 _)) (rdSs_ok j), ?_⟩
  refine he2 HI _ _ σ F H st (fun z s1 v F1 H1 c1 ex1 sv1 => ?_) hp
  obtain ⟨rv, st1⟩ := sv1.fz
  obtain ⟨a, vs, ea, eh, al, _⟩ := st1.own hΓ
  refine ⟨.ref a, ea, ?_⟩
  obtain ⟨b, us, eb, ebh, bl, _⟩ := st1.own hΓ2
  refine ⟨.ref b, eb, .inl ⟨rfl, us, SqL.of ebh⟩, ?_⟩
  refine he1 s1 HI _ _ σ F1 H1 st1 (fun q s2 iv F2 H2 c2 ex2 sv2 => ?_) c1
  obtain ⟨ri, st2⟩ := sv2.fz
  obtain ⟨⟨q1, q2⟩, m, hm, t, ht, n, hn, c⟩ := c2
  obtain ⟨b', us', eb', ebh', bl', up⟩ := st2.own hΓ2
  rw [eb] at eb'; cases eb'
  have hm' : ixN us'.length q = some m := by rw [← bl'.length]; exact hm
  obtain ⟨u, hu, ru⟩ := bl'.get ht
  have ru : u = .int t := ru
  subst ru
  refine ⟨b, us', q, m, .int t, rfl, by rw [show iv = V.int q from ri], ebh', q1, q2, (ixN_seq hm').1, hu, ?_⟩
  have st3 := up (ys.eraseIdx m) (us'.eraseIdx m) (bl'.eraseIdx m)
  have hΓ3 : (Γ.set j (some (ol pI (ys.eraseIdx m))))[i]? = some (some (ol ra xs)) := by rw [List.getElem?_set_ne (Ne.symm hij)]; exact hΓ
  obtain ⟨a', vs', ea', eh', al', up'⟩ := st3.own hΓ3
  rw [ea] at ea'; cases ea'
  refine ⟨a, vs', t, n, rfl, rfl, eh', by rw [← al'.length]; exact hn, ?_⟩
  exact hk m n z s2 σ F2 _ (e0.trans (ex1.trans ex2)) (up' _ _ (al'.set n (ra.mono ex2 rv))) c
/-! ### ways out, where a resource is left behind -/
structure Eds (D1 D : Ends) : Prop where
  nx : ∀ σ H, D1.nx σ H → D.nx σ H
  rt : ∀ v H, D1.rt v H → D.rt v H
  bk : ∀ σ H, D1.bk σ H → D.bk σ H
  ct : ∀ σ H, D1.ct σ H → D.ct σ H
/-- a list made here becomes the resource -/
theorem ed_nx {HI F0 : Hp} {Γn : γ → Asrt} {kn : γ → Unit → Prop} : ∀ σ H, nxJ O1 HI F0 Γn (fun g _ => kn g ()) σ H → nxJ (fun _ : Unit => emp) HI F0 Γn kn σ H :=
  fun σ H ⟨g, s, F, q1, q2, h1, h2, a, b, c⟩ => ⟨g, (), F, q1, q2, h1, [], a, rfl, c.sub (List.Sublist.append_left (List.nil_sublist _) _)⟩
theorem ed_rt {HI F0 : Hp} {R : ρ → Unit → Prop} : ∀ v H, rtJ O1 HI F0 A (fun y _ => R y ()) v H → rtJ (fun _ : Unit => emp) HI F0 A R v H :=
  fun v H ⟨y, s5, F5, r5, e5, hv, k1, k2, q1, q2, q3, q4⟩ => ⟨y, (), F5, r5, e5, hv, k1, [], q1, q2, rfl, q4.sub (List.Sublist.append_left (List.Sublist.append_left (List.nil_sublist _) _) _)⟩
theorem ed_fx {HI F0 : Hp} {R : ρ → Unit → Prop} : ∀ (σ : L2.St) H, (fun (_ : L2.St) H' => rtJ O1 HI F0 A (fun y _ => R y ()) .non H') σ H → (fun (_ : L2.St) H' => rtJ (fun _ : Unit => emp) HI F0 A R .non H') σ H := fun _ H h => ed_rt _ H h
theorem ed_no {X : L2.St → Hp → Prop} : ∀ (σ : L2.St) H, (fun (_ : L2.St) (_ : Hp) => False) σ H → X σ H := fun _ _ h => h.elim
theorem xs_adoptE {HI F0 : Hp} {sts : List Stmt} {Pk : Prop} {u : Unit} {y : List α} {D : Ends} {D1 : Addr → Ends} (i : Nat) (I : S2 → List α → Prop) (n : S2) (hΓ : Γ[i]? = some (some (ol ra y))) (hD : ∀ a, Eds (D1 a) D)
    (hk : ∀ a, XSs M (hidR I (resL ra a)) HI F0 (Γ.set i (some (fz pA a))) n sts (D1 a) Pk) : XSs M (fun _ : Unit => emp) HI F0 Γ u sts D (I n y ∧ Pk) := by
  intro σ F H e0 st hp
  obtain ⟨h1, h2, sa, so, ok⟩ := st
  have so : h2 = [] := so
  subst so
  obtain ⟨v, g1, g2, ev, pm, ⟨a, vs, rfl, eg, al⟩, back⟩ := sa.at hΓ
  obtain ⟨h', p', q'⟩ := back F (fz pA a) (.ref a) [] (Same.refl _) ⟨rfl, rfl⟩
  rw [set_same ev] at q'
  refine rdSs_mono (hk a σ F H e0 ⟨h', g1, q', ⟨y, hp.1, vs, eg, al⟩, ok.perm ?_⟩ hp.2) (hD a).nx (hD a).rt (hD a).bk (hD a).ct
  rw [List.append_nil]
  refine pm.trans ?_
  refine (List.perm_append_comm).trans ?_
  exact p'.symm.append_right g1
/-! ### two resources -/
def resP {S1 S2 : Type} (O1 : S1 → Res) (O2 : S2 → Res) (s : S1 × S2) : Res := ⟨fun F h => ∃ g1 g2, h = g1 ++ g2 ∧ (O1 s.1).p F g1 ∧ (O2 s.2).p F g2, fun e ⟨g1, g2, a, b, c⟩ => ⟨g1, g2, a, (O1 s.1).mono e b, (O2 s.2).mono e c⟩⟩
theorem foc_fst {S1 S2 T : Type} {O1 : S1 → Res} {O2 : S2 → Res} {Oz : T → Res} {get : S1 → T} {put : S1 → T → S1} (f : Foc O1 Oz get put) : Foc (resP O1 O2) Oz (fun s => get s.1) (fun s z => (put s.1 z, s.2)) := ⟨fun {s F h} ⟨k1, k2, e, q1, q2⟩ => by
  obtain ⟨g1, g2, pm, o, back⟩ := f.split q1
  refine ⟨g1, g2 ++ k2, ?_, o, fun F' s1 g1' e1 o1 => ?_⟩
  · rw [e, ← List.append_assoc]; exact pm.append_right k2
  · obtain ⟨h', p', q'⟩ := back F' s1 g1' e1 o1
    exact ⟨h' ++ k2, by rw [← List.append_assoc]; exact p'.append_right k2, h', k2, rfl, q', (O2 s.2).mono e1 q2⟩⟩
theorem foc_snd {S1 S2 T : Type} {O1 : S1 → Res} {O2 : S2 → Res} {Oz : T → Res} {get : S2 → T} {put : S2 → T → S2} (f : Foc O2 Oz get put) : Foc (resP O1 O2) Oz (fun s => get s.2) (fun s z => (s.1, put s.2 z)) := ⟨fun {s F h} ⟨k1, k2, e, q1, q2⟩ => by
  obtain ⟨g1, g2, pm, o, back⟩ := f.split q2
  refine ⟨g1, g2 ++ k1, ?_, o, fun F' s1 g1' e1 o1 => ?_⟩
  · rw [e, ← List.append_assoc]; exact List.perm_append_comm.trans (pm.append_right k1)
  · obtain ⟨h', p', q'⟩ := back F' s1 g1' e1 o1
    refine ⟨k1 ++ h', ?_, k1, h', rfl, (O1 s.1).mono e1 q1, q'⟩
    rw [← List.append_assoc]
    exact List.perm_append_comm.trans (p'.append_right k1)⟩
theorem eq_nx {O2 : S2 → Res} {HI F0 : Hp} {Γn : γ → Asrt} {kn : γ → S1 → Prop} : ∀ σ H, nxJ (resP O1 O2) HI F0 Γn (fun g s => kn g s.1) σ H → nxJ O1 HI F0 Γn kn σ H :=
  fun σ H ⟨g, s, F, q1, q2, h1, h2, a, ⟨g1, g2, e, b1, b2⟩, c⟩ => ⟨g, s.1, F, q1, q2, h1, g1, a, b1, c.sub (List.Sublist.append_left (by rw [e]; exact List.sublist_append_left _ _) _)⟩
theorem eq_rt {O2 : S2 → Res} {HI F0 : Hp} {R : ρ → S1 → Prop} : ∀ v H, rtJ (resP O1 O2) HI F0 A (fun y s => R y s.1) v H → rtJ O1 HI F0 A R v H :=
  fun v H ⟨y, s5, F5, r5, e5, hv, k1, k2, q1, q2, ⟨g1, g2, e, b1, b2⟩, q4⟩ => ⟨y, s5.1, F5, r5, e5, hv, k1, g1, q1, q2, b1, q4.sub (List.Sublist.append_left (List.Sublist.append_left (by rw [e]; exact List.sublist_append_left _ _) _) _)⟩
theorem eq_fx {O2 : S2 → Res} {HI F0 : Hp} {R : ρ → S1 → Prop} : ∀ (σ : L2.St) H, (fun (_ : L2.St) H' => rtJ (resP O1 O2) HI F0 A (fun y s => R y s.1) .non H') σ H → (fun (_ : L2.St) H' => rtJ O1 HI F0 A R .non H') σ H := fun _ H h => eq_rt _ H h
/-- a list made here becomes one more resource -/
theorem xs_adoptP {O : S1 → Res} {s : S1} {HI F0 : Hp} {sts : List Stmt} {Pk : Prop} {y : List α} {D : Ends} {D1 : Addr → Ends} (i : Nat) (I : S2 → List α → Prop) (n : S2) (hΓ : Γ[i]? = some (some (ol ra y))) (hD : ∀ a, Eds (D1 a) D)
    (hk : ∀ a, XSs M (resP O (hidR I (resL ra a))) HI F0 (Γ.set i (some (fz pA a))) (s, n) sts (D1 a) Pk) : XSs M O HI F0 Γ s sts D (I n y ∧ Pk) := by
  intro σ F H e0 st hp
  obtain ⟨h1, h2, sa, so, ok⟩ := st
  obtain ⟨v, g1, g2, ev, pm, ⟨a, vs, rfl, eg, al⟩, back⟩ := sa.at hΓ
  obtain ⟨h', p', q'⟩ := back F (fz pA a) (.ref a) [] (Same.refl _) ⟨rfl, rfl⟩
  rw [set_same ev] at q'
  refine rdSs_mono (hk a σ F H e0 ⟨h', h2 ++ g1, q', ⟨h2, g1, rfl, so, y, hp.1, vs, eg, al⟩, ok.perm ?_⟩ hp.2) (hD a).nx (hD a).rt (hD a).bk (hD a).ct
  rw [← List.append_assoc]
  refine (pm.append_right h2).trans ?_
  rw [List.append_assoc]
  refine (List.perm_append_comm).trans ?_
  have p' : h'.Perm g2 := p'
  exact (p'.symm.append_right h2).append_right g1
/-- x.pop(e), x at a known address, as a value -/
theorem xe_resPop {T : Type} {get : S → List α} {put : S → List α → S} {a : Addr} {i : Nat} {x : Str} {p1 ap cp : Pos} {e : Expr} {we : (Int → S → Prop) → Prop} (foc : Foc O (resL ra a) get put) (hΓ : Γ[i]? = some (some (fz pA a))) (he : XE M O Γ s e (fz pI) we) (hN : N[i]? = some x := by rfl) (hv : Vis sc x := by first | exact Or.inl rfl | exact Or.inr (Or.inl rfl) | exact Or.inr (Or.inr rfl))
    (hd : (x == ("__debug__" : Str)) = false := by decide) (hcd : (x == ("__classdict__" : Str)) = false := by decide) (hns : NoStar e := by intro _ _; rfl)
    (hfew : ∀ env, ((backTo cp (starEach [e] env)).all (fun x => !x.1) && (backToKw cp (keywordEach [] env)).all (fun x => x.1.isSome) && decide ([e].length + ([] : List Keyword).length + (if ([] : List Keyword).isEmpty then 0 else 1) < 30)) = true := by intro _; rfl)
    (hline : (ap.endLine == cp.line) = true := by rfl) : XE M O Γ s (.Call (.Attribute (.Name x p1) "pop" ap) [e] [] cp) (fz ra) (fun k => we fun q s1 => (-(2 ^ 63) ≤ q ∧ q < 2 ^ 63) ∧ ∃ m, ixN (get s1).length q = some m ∧ ∃ t, (get s1)[m]? = some t ∧ k t (put s1 ((get s1).eraseIdx m))) := by
  intro HI C Q σ F H st hq hc
  obtain ⟨v, ev, r⟩ := st.slot hΓ
  have r : v = .ref a := r
  subst r
  refine ⟨tBM K "list" rPopAt (tVar i) (tCons (rdE M e) tNil), fun j => (by
    have h := pe_bm (X := M.X j) (cpos := cp) PySem.F.plainAttrs_list PySem.F.slot_list_pop PySem.F.type_list_pop mt_popAt (pe_nameO (pos := p1) hN hv hd hcd j) (pa_cons (rdE_ok (M := M) j) pa_nil (hns _ _)) rfl (hfew _) hline (hns _ _) rfl
    rw [M.kf j] at h; exact h), .ref a, ev, ?_⟩
  obtain ⟨k1, k2, ⟨us, eu, bl⟩, oku, _⟩ := st.res foc
  subst eu
  refine ⟨.inl ⟨rfl, us, SqL.of (oku.own _ List.mem_cons_self).1⟩, ?_⟩
  refine he HI _ _ σ F H st (fun q s1 u F1 H1 c1 e1 sv1 => ?_) hc
  obtain ⟨ru, st1⟩ := sv1.fz
  obtain ⟨⟨q1, q2⟩, m, hm, t, ht, c⟩ := c1
  obtain ⟨g1, g2, ⟨vs, eg, al⟩, ok, back⟩ := st1.res foc
  subst eg
  have hm' : ixN vs.length q = some m := by rw [← al.length]; exact hm
  obtain ⟨z, hz, rz⟩ := al.get ht
  refine ⟨a, vs, q, m, z, rfl, by rw [show u = V.int q from ru], (ok.own _ List.mem_cons_self).1, q1, q2, (ixN_seq hm').1, hz, ?_⟩
  exact hq t _ z F1 _ c e1 ((back F1 _ _ [(a, .lst (vs.eraseIdx m))] (Same.refl _) ⟨_, rfl, al.eraseIdx m⟩ ok.set).val rz)
end
end Sm

set_option Elab.async false
set_option linter.all false
set_option maxRecDepth 100000
set_option maxHeartbeats 4000000
namespace Sm
open PySem PySem.Spec PyProof.Rows L2
theorem sw_subs {a b d e g h : Expr} {c f pt pt2 : Pos} {kt k2 : Nat} {env : Env} : swappedStores [.Tuple [.Subscript a b c, .Subscript d e f] kt pt] (.Tuple [g, h] k2 pt2) env = pure none := by
  unfold swappedStores
  dsimp only
  split
  · rfl
  split
  · rfl
  · rfl
theorem sw_names {x y : Str} {a b : Expr} {px py pt pt2 : Pos} {kt k2 : Nat} {env : Env} (hk : env.scope.kind = .function) (hx : env.scope.names.lookup x = some .local) (hy : env.scope.names.lookup y = some .local) (hl : (py.line == px.line) = true) (hxy : ([x, y].eraseDups.length != 2) = false)
    (hst : ([a, b].any fun | .Starred .. => true | _ => false) = false) (hf : [a, b].all (foldedForSure 8) = false) (hc : [a, b].all (constantsAlone 8) = false) : swappedStores [.Tuple [.Name x px, .Name y py] kt pt] (.Tuple [a, b] k2 pt2) env = pure (some [x, y]) := by
  have kx : env.kindOf x = some .local := hx
  have ky : env.kindOf y = some .local := hy
  have hb : env.blockKind = .function := by unfold Env.blockKind; rw [hk]; rfl
  unfold swappedStores
  dsimp only
  have e1 : (!([Expr.Name x px, Expr.Name y py].length == 2 || [Expr.Name x px, Expr.Name y py].length == 3) || [a, b].length != [Expr.Name x px, Expr.Name y py].length || env.blockKind != .function) = false := by rw [hb]; rfl
  rw [if_neg (by rw [e1]; exact Bool.false_ne_true)]
  rw [if_neg (by intro q; exact Bool.false_ne_true (hst.symm.trans q))]
  have hl' := eq_of_beq hl
  simp only [List.filterMap_cons, List.filterMap_nil, kx, ky, Expr.pos, List.head?_cons, Option.map_some, Option.getD_some, hl', beq_self_eq_true, Bool.and_self, if_true, hf, hc]
  rw [if_neg (by intro q; simp only [List.length_cons, List.length_nil] at q hxy; rw [hxy] at q; exact absurd q (by decide))]
  rfl
section
variable {P : Program} {w : World} {K : PySem.W.Frag} {mg : Str → Option Value} {base : Heap} {N : List Str} {sc : Scope} {fn : Str → Bool} {k : Nat}
variable {M : Fm P w K mg base N sc fn k}
variable {S : Type} {O : S → Res} {Γ : Asrt} {s : S} {α β γ ρ : Type} {ra : RP α} {rb : RP β} {rc : RP γ} {A : ρ → VA}
/-- x[i1], x[i2] = a pair; x owned -/
theorem xs_setO2 {HI F0 : Hp} {D : Ends} {i1 i2 e : Expr} {x : Str} {p1 p2 p3 p4 pt pos : Pos} {kt : Nat} {rest : List Stmt} {xs : List α} {W : (α × α → S → Prop) → Prop} {w1 w2 : S → (Int → S → Prop) → Prop} {Pk : Nat → Nat → α × α → S → Prop} (i : Nat) (hΓ : Γ[i]? = some (some (ol ra xs))) (he : XE M O Γ s e (fz (pP K ra ra)) W) (h1 : ∀ s', XE M O Γ s' i1 (fz pI) (w1 s')) (h2 : ∀ n z s', XE M O (Γ.set i (some (ol ra (xs.set n z)))) s' i2 (fz pI) (w2 s'))
    (hk : ∀ n m y s', XSs M O HI F0 (Γ.set i (some (ol ra ((xs.set n y.1).set m y.2)))) s' rest D (Pk n m y s')) (hN : N[i]? = some x := by rfl) (hv : Vis sc x := by first | exact Or.inl rfl | exact Or.inr (Or.inl rfl) | exact Or.inr (Or.inr rfl))
    (hd : (x == ("__debug__" : Str)) = false := by decide) (hcd : (x == ("__classdict__" : Str)) = false := by decide)
    (hsub1 : ∀ env v, assign (.Subscript (.Name x p1) i1 p2) env v = (do
      let ov ← holding [v] (eval (.Name x p1) env)
      let iv ← holding [v, ov] (eval i1 env)
      standAt p2
      holding [v, ov, iv] (setItem ov iv v)
      release [v, ov, iv] []) := by intro _ _; rfl)
    (hsub2 : ∀ env v, assign (.Subscript (.Name x p3) i2 p4) env v = (do
      let ov ← holding [v] (eval (.Name x p3) env)
      let iv ← holding [v, ov] (eval i2 env)
      standAt p4
      holding [v, ov, iv] (setItem ov iv v)
      release [v, ov, iv] []) := by intro _ _; rfl)
    (hs : ∀ j, swapsWithSole [.Tuple [.Subscript (.Name x p1) i1 p2, .Subscript (.Name x p3) i2 p4] kt pt] e pos.line (M.X j).env = pure false := by intro _; rfl) (hw : ∀ j, swappedStores [.Tuple [.Subscript (.Name x p1) i1 p2, .Subscript (.Name x p3) i2 p4] kt pt] e (M.X j).env = pure none := by intro _; first | rfl | exact sw_subs)
    (hx1 : ∀ env, (assignEach [.Tuple [.Subscript (.Name x p1) i1 p2, .Subscript (.Name x p3) i2 p4] kt pt] env).map (·.2) = [assign (.Tuple [.Subscript (.Name x p1) i1 p2, .Subscript (.Name x p3) i2 p4] kt pt) env] := by intro _; rfl)
    (hx2 : ∀ env, (assignEach [.Subscript (.Name x p1) i1 p2, .Subscript (.Name x p3) i2 p4] env).map (·.2) = assign (.Subscript (.Name x p1) i1 p2) env :: (assignEach [.Subscript (.Name x p3) i2 p4] env).map (·.2) := by intro _; rfl)
    (hx3 : ∀ env, (assignEach [.Subscript (.Name x p3) i2 p4] env).map (·.2) = assign (.Subscript (.Name x p3) i2 p4) env :: (assignEach [] env).map (·.2) := by intro _; rfl)
    (hx4 : ∀ env, (assignEach [.Subscript (.Name x p1) i1 p2, .Subscript (.Name x p3) i2 p4] env).length = 2 := by intro _; rfl) (hx5 : ∀ env, (assignEach [.Subscript (.Name x p1) i1 p2, .Subscript (.Name x p3) i2 p4] env).findIdx? (·.1) = none := by intro _; rfl) :
    XSs M O HI F0 Γ s (.Assign [.Tuple [.Subscript (.Name x p1) i1 p2, .Subscript (.Name x p3) i2 p4] kt pt] e pos :: rest) D (W fun y s1 => w1 s1 fun j s2 => ∃ n, ixN xs.length j = some n ∧ w2 s2 fun j2 s3 => ∃ m, ixN xs.length j2 = some m ∧ Pk n m y s3) := by
  intro σ F H e0 st hp
  refine ⟨tSeq (tAsg (rdE M e) (gTup K 2 (gCons (gSub (tVar i) (rdE M i1) rSetL) (gCons (gSub (tVar i) (rdE M i2) rSetL) gNil)))) (rdSs M rest), fun j => pss_cons (ps_asg (rdE_ok j) (by
    have h := pg_tup (pos := pt) (k := kt) (M.calm j) (pgs_cons (pg_sub (pe_nameO (M := M) (pos := p1) hN hv hd hcd j) (rdE_ok j) set_list (hsub1 _)) (pgs_cons (pg_sub (pe_nameO (M := M) (pos := p3) hN hv hd hcd j) (rdE_ok j) set_list (hsub2 _)) pgs_nil (hx3 _)) (hx2 _)) (hx4 _) (hx5 _)
    rw [M.kf j] at h; exact h) (hs j) (hw j) (hx1 _)) (rdSs_ok j), ?_⟩
  refine he HI _ _ σ F H st (fun y s1 v F1 H1 c1 ex1 sv1 => ?_) hp
  obtain ⟨⟨at1, u1, u2, ev, hq, r1, r2⟩, st1⟩ := sv1.fz
  subst ev
  refine ⟨at1, [u1, u2], rfl, SqT.mono st1.ok hq, rfl, u1, [u2], rfl, ?_⟩
  obtain ⟨a, vs, ea, eh, al, _⟩ := st1.own hΓ
  refine ⟨.ref a, ea, ?_⟩
  refine h1 s1 HI _ _ σ F1 H1 st1 (fun j s2 iv F2 H2 c2 ex2 sv2 => ?_) c1
  obtain ⟨ri, st2⟩ := sv2.fz
  obtain ⟨n, hn, c⟩ := c2
  obtain ⟨a', vs', ea', eh', al', up⟩ := st2.own hΓ
  rw [ea] at ea'; cases ea'
  refine ⟨a, vs', j, n, rfl, ri, eh', by rw [← al'.length]; exact hn, u2, [], rfl, ?_⟩
  have st3 := up (xs.set n y.1) (vs'.set n u1) (al'.set n (ra.mono ex2 r1))
  refine ⟨.ref a, ea, ?_⟩
  refine h2 n y.1 s2 HI _ _ σ F2 _ st3 (fun j2 s3 iv2 F3 H3 c3 ex3 sv3 => ?_) c
  obtain ⟨ri2, st4⟩ := sv3.fz
  obtain ⟨m, hm, c⟩ := c3
  have hi : i < Γ.length := (List.getElem?_eq_some_iff.mp hΓ).1
  obtain ⟨a'', ws, ea'', eh'', al'', up'⟩ := st4.own (i := i) (xs := xs.set n y.1) (by rw [List.getElem?_set_self hi])
  rw [ea] at ea''; cases ea''
  refine ⟨a, ws, j2, m, rfl, ri2, eh'', by rw [← al''.length, List.length_set]; exact hm, rfl, ?_⟩
  have st5 := up' ((xs.set n y.1).set m y.2) _ (al''.set m (ra.mono (ex2.trans ex3) r2))
  rw [List.set_set] at st5
  exact hk n m y s3 σ F3 _ (e0.trans (ex1.trans (ex2.trans ex3))) st5 c
/-- x, y = a, b: two names -/
theorem xs_par {HI F0 : Hp} {D : Ends} {a b : Expr} {x y : Str} {px py pt pt2 pos : Pos} {kt k2 : Nat} {rest : List Stmt} {wa : (α → S → Prop) → Prop} {wb : S → (β → S → Prop) → Prop} {Pk : α → β → S → Prop} (i j : Nat) (ha : XE M O Γ s a (fz ra) wa) (hb : ∀ s', XE M O Γ s' b (fz rb) (wb s'))
    (hk : ∀ z1 z2 s', XSs M O HI F0 ((Γ.set i (some (fz ra z1))).set j (some (fz rb z2))) s' rest D (Pk z1 z2 s')) (hN : N[i]? = some x := by rfl) (hN2 : N[j]? = some y := by rfl) (hij : i ≠ j := by decide) (hx : sc.names.lookup x = some .local := by rfl) (hy : sc.names.lookup y = some .local := by rfl) (hkd : sc.kind = .function := by rfl) (hΓ : Γ.length = N.length := by rfl)
    (hl : (py.line == px.line) = true := by rfl) (hxy : ([x, y].eraseDups.length != 2) = false := by decide +kernel) (hst : ([a, b].any fun | .Starred .. => true | _ => false) = false := by rfl) (hf : [a, b].all (foldedForSure 8) = false := by rfl) (hc : [a, b].all (constantsAlone 8) = false := by rfl) (na : NoStar a := by intro _ _; rfl) (nb : NoStar b := by intro _ _; rfl)
    (hs : ∀ j, swapsWithSole [.Tuple [.Name x px, .Name y py] kt pt] (.Tuple [a, b] k2 pt2) pos.line (M.X j).env = pure false := by intro _; rfl) :
    XSs M O HI F0 Γ s (.Assign [.Tuple [.Name x px, .Name y py] kt pt] (.Tuple [a, b] k2 pt2) pos :: rest) D (wa fun z1 s1 => wb s1 fun z2 s2 => Pk z1 z2 s2) := by
  intro σ F H e0 st hp
  have hi : i < N.length := (List.getElem?_eq_some_iff.mp hN).1
  have hj : j < N.length := (List.getElem?_eq_some_iff.mp hN2).1
  refine ⟨_, fun q => pss_cons (ps_par (i := i) (j := j) (M.calm q) (by rw [M.nn]; exact M.nd) (by rw [M.nn]; exact hN) (by rw [M.nn]; exact hN2) hij (by rw [M.scp]; exact hx) (by rw [M.scp]; exact hy) (pa_cons (rdE_ok q) (pa_cons (rdE_ok q) pa_nil (nb _ _)) (na _ _)) (sw_names (by rw [M.scp]; exact hkd) (by rw [M.scp]; exact hx) (by rw [M.scp]; exact hy) hl hxy hst hf hc) (hs q)) (rdSs_ok q), ?_⟩
  refine two ha hb st (R := fun u v H2 => _) (fun z1 z2 s' u v F' H' c e r1 r2 st' => ?_) hp
  refine ⟨u, v, rfl, ?_⟩
  have st1 := Stt.put (i := i) (st'.val r1) (by rw [hΓ]; exact hi)
  have st2 := Stt.put (i := j) (st1.val r2) (by rw [List.length_set, hΓ]; exact hj)
  exact hk z1 z2 s' _ F' H' (e0.trans e) st2 c
variable {S1 S2 : Type}
theorem xs_adoptF {HI F0 : Hp} {sts : List Stmt} {R : ρ → Unit → Prop} {Pk : Prop} {u : Unit} {y : List α} (i : Nat) (I : S2 → List α → Prop) (n : S2) (hΓ : Γ[i]? = some (some (ol ra y)))
    (hk : ∀ a, XSs M (hidR I (resL ra a)) HI F0 (Γ.set i (some (fz pA a))) n sts { nx := fun _ H' => rtJ (hidR I (resL ra a)) HI F0 A (fun y _ => R y ()) .non H', rt := rtJ (hidR I (resL ra a)) HI F0 A (fun y _ => R y ()), bk := fun _ _ => False, ct := fun _ _ => False } Pk) :
    XSs M (fun _ : Unit => emp) HI F0 Γ u sts { nx := fun _ H' => rtJ (fun _ : Unit => emp) HI F0 A R .non H', rt := rtJ (fun _ : Unit => emp) HI F0 A R, bk := fun _ _ => False, ct := fun _ _ => False } (I n y ∧ Pk) := xs_adopt i I n hΓ hk
theorem xs_adoptL {HI F0 F1 F2 : Hp} {sts : List Stmt} {R : ρ → Unit → Prop} {Pk : Prop} {u : Unit} {y : List α} {Γn : γ → Asrt} {Γb : β → Asrt} {kn : γ → Unit → Prop} {kb : β → Unit → Prop} (i : Nat) (I : S2 → List α → Prop) (n : S2) (hΓ : Γ[i]? = some (some (ol ra y)))
    (hk : ∀ a, XSs M (hidR I (resL ra a)) HI F1 (Γ.set i (some (fz pA a))) n sts { nx := nxJ (hidR I (resL ra a)) HI F1 Γn (fun g _ => kn g ()), rt := rtJ (hidR I (resL ra a)) HI F0 A (fun y _ => R y ()), bk := nxJ (hidR I (resL ra a)) HI F2 Γb (fun g _ => kb g ()), ct := nxJ (hidR I (resL ra a)) HI F1 Γn (fun g _ => kn g ()) } Pk) :
    XSs M (fun _ : Unit => emp) HI F1 Γ u sts { nx := nxJ (fun _ : Unit => emp) HI F1 Γn kn, rt := rtJ (fun _ : Unit => emp) HI F0 A R, bk := nxJ (fun _ : Unit => emp) HI F2 Γb kb, ct := nxJ (fun _ : Unit => emp) HI F1 Γn kn } (I n y ∧ Pk) :=
  xs_adoptE (M := M) i I n hΓ (fun a => ⟨ed_nx, ed_rt, ed_nx, ed_nx⟩) hk
/-- one more resource, in a loop and in a def -/
theorem xs_adopt2F {O : S1 → Res} {s : S1} {HI F0 : Hp} {sts : List Stmt} {R : ρ → S1 → Prop} {Pk : Prop} {y : List α} (i : Nat) (I : S2 → List α → Prop) (n : S2) (hΓ : Γ[i]? = some (some (ol ra y)))
    (hk : ∀ a, XSs M (resP O (hidR I (resL ra a))) HI F0 (Γ.set i (some (fz pA a))) (s, n) sts { nx := fun _ H' => rtJ (resP O (hidR I (resL ra a))) HI F0 A (fun y s => R y s.1) .non H', rt := rtJ (resP O (hidR I (resL ra a))) HI F0 A (fun y s => R y s.1), bk := fun _ _ => False, ct := fun _ _ => False } Pk) :
    XSs M O HI F0 Γ s sts { nx := fun _ H' => rtJ O HI F0 A R .non H', rt := rtJ O HI F0 A R, bk := fun _ _ => False, ct := fun _ _ => False } (I n y ∧ Pk) :=
  xs_adoptP (M := M) i I n hΓ (fun a => ⟨eq_fx, eq_rt, ed_no, ed_no⟩) hk
theorem xs_adopt2L {O : S1 → Res} {s : S1} {HI F0 F1 F2 : Hp} {sts : List Stmt} {R : ρ → S1 → Prop} {Pk : Prop} {y : List α} {Γn : γ → Asrt} {Γb : β → Asrt} {kn : γ → S1 → Prop} {kb : β → S1 → Prop} (i : Nat) (I : S2 → List α → Prop) (n : S2) (hΓ : Γ[i]? = some (some (ol ra y)))
    (hk : ∀ a, XSs M (resP O (hidR I (resL ra a))) HI F1 (Γ.set i (some (fz pA a))) (s, n) sts { nx := nxJ (resP O (hidR I (resL ra a))) HI F1 Γn (fun g s => kn g s.1), rt := rtJ (resP O (hidR I (resL ra a))) HI F0 A (fun y s => R y s.1), bk := nxJ (resP O (hidR I (resL ra a))) HI F2 Γb (fun g s => kb g s.1), ct := nxJ (resP O (hidR I (resL ra a))) HI F1 Γn (fun g s => kn g s.1) } Pk) :
    XSs M O HI F1 Γ s sts { nx := nxJ O HI F1 Γn kn, rt := rtJ O HI F0 A R, bk := nxJ O HI F2 Γb kb, ct := nxJ O HI F1 Γn kn } (I n y ∧ Pk) :=
  xs_adoptP (M := M) i I n hΓ (fun a => ⟨eq_nx, eq_rt, eq_nx, eq_nx⟩) hk
end
end Sm

set_option Elab.async false
set_option linter.all false
set_option maxRecDepth 100000
set_option maxHeartbeats 4000000
namespace Sm
open PySem PySem.Spec PyProof.Rows L2
section
variable {P : Program} {w : World} {K : PySem.W.Frag} {mg : Str → Option Value} {base : Heap} {N : List Str} {sc : Scope} {fn : Str → Bool} {k : Nat}
variable {M : Fm P w K mg base N sc fn k}
variable {S : Type} {O : S → Res} {Γ : Asrt} {s : S} {α β γ ρ : Type} {ra : RP α} {rb : RP β} {rc : RP γ} {A : ρ → VA}
theorem xe_isaO {x : Str} {T U : String} {b : Bool} {e : Expr} {p p' pos : Pos} {wa : (Option α → S → Prop) → Prop} (hI : Isa K ra T) (hk : kitB T U = some b) (hk0 : kitB "NoneType" U = some false) (hv : bootBuiltins x = some (.type U)) (hm : mg "isinstance" = none) (hm2 : mg x = none) (ha : XE M O Γ s e (fz (pO ra)) wa) (hg : GlN sc "isinstance" := by rfl) (hg2 : GlN sc x := by rfl)
    (hn : x ≠ "__name__" := by decide) (hdb : (x == ("__debug__" : Str)) = false := by decide) (hs : NoStar e := by intro _ _; rfl) :
    XE M O Γ s (.Call (.Name "isinstance" p) [e, .Name x p'] [] pos) (fz pB) (fun k => wa fun y s1 => k (y.isSome && b) s1) := by
  intro HI C Q σ F H st hq hc
  refine ⟨_, fun i => pe_callB (by have h := call_isi (X := M.X i); rw [M.kf i] at h; exact h) (Gl.of hg i) (M.none hm i) b_isinstance (pa_cons (rdE_ok i) (pa_cons (pe_bltn (v := .ty U) (Gl.of hg2 i) (M.none hm2 i) hv rfl hn hdb) pa_nil rfl) (hs _ _)) (by decide) (by decide) (hs _ _) rfl, ?_⟩
  refine ha HI _ _ σ F H st (fun y s1 u F1 H1 c1 e1 sv1 => ?_) hc
  obtain ⟨rx, st1⟩ := sv1.fz
  cases y with
  | none => exact ⟨u, .ty U, .type "NoneType", .type U, false, rfl, .ty U, by rw [show u = V.non from rx]; exact .base .non, kit_ty hk0, hq _ s1 _ F1 H1 c1 e1 (st1.val rfl)⟩
  | some y => exact ⟨u, .ty U, .type T, .type U, b, rfl, .ty U, hI st1.ok rx.2, kit_ty hk, hq _ s1 _ F1 H1 c1 e1 (st1.val rfl)⟩
end
theorem SpF.imp {αs ρ ad S : Type} {PA : ad → αs → List VA} {O : ad → S → Res} {A : ρ → VA} {m1 m2 : αs → S → (ρ → S → Prop) → Prop} (hm : ∀ x s C, m2 x s C → m1 x s C) {vs : List V} {H : Hp} {Q : VK} {E : XK} (h : SpF ad PA O A m2 vs H Q E) : SpF ad PA O A m1 vs H Q E := by
  obtain ⟨a, x, s, F, HI, h2, av, ho, ok, C, hC, hw⟩ := h
  exact ⟨a, x, s, F, HI, h2, av, ho, ok, C, hC, hm _ _ _ hw⟩
/-- a def that calls itself, by depth -/
theorem rec_has {P : Program} {w : World} {K : PySem.W.Frag} {mg : Str → Option Value} {base : Heap} {x : Str} {f : Addr} {fd : FuncData} {ps : List Str} {sp : Nat → Sp} (j0 : Nat) (hm : mg x = some (.ref f)) (hk : PySem.W.keepIn K (.ref f) = true) (hb : Binds K fd ps []) (h0 : FnOk P w K mg base CX0 j0 f fd ps (sp 0))
    (step : ∀ n, Has P w K mg base x (j0 + n) ps (sp n) → FnOk P w K mg base CX0 (j0 + n + 1) f fd ps (sp (n + 1))) : ∀ n, Has P w K mg base x (j0 + n) ps (sp n)
  | 0 => ⟨f, fd, hm, hk, hb, h0⟩
  | n + 1 => ⟨f, fd, hm, hk, hb, step n (rec_has j0 hm hk hb h0 step n)⟩
end Sm

set_option Elab.async false
set_option linter.all false
set_option maxRecDepth 100000
set_option maxHeartbeats 4000000
namespace Sm
open PySem PySem.Spec PyProof.Rows L2
/-! ### xs[::-1] -/
def tRev (K : PySem.W.Frag) (te tk : TE) : TE := fun σ H Q => te σ H fun x H1 => tPart tk σ H1 fun o H2 => o = some (-1) ∧ ∃ a xs, x = .ref a ∧ SqL K H2 a xs ∧ ∀ p, H2 p = none → Q (.ref p) (upd H2 p (.lst xs.reverse))
theorem pe_rev {X : Cx} {e kx : Expr} {te tk : TE} {p2 pos : Pos} (he : PE X e te) (hk : PE X kx tk) (hsub : ∀ a b : Addr, subscripted (.Slice none none (some kx) p2) false (.ref a) (.ref b) = operate [.ref a, .ref b] (getItem (.ref a) (.ref b)) := by intro _ _; rfl) : PE X (.Subscript e (.Slice none none (some kx) p2) pos) (tRev X.K te tk) := by
  refine ⟨fun pins s σ H Q I h => ?_⟩
  refine Subscript_ (thn (he.run pins s σ H _ I h) fun v s1 ⟨x, H1, I1, r1, q1⟩ => ?_)
  refine wpAny_Slice ?_
  rw [evalPart_none]
  refine wpAny_pure (wpAny_pure ?_)
  refine thn ((po_some hk).run pins s1 σ H1 _ I1 q1) fun vk s3 ⟨o, H3, I3, pk, eo, a, xs, ex, hx, q⟩ => ?_
  subst eo ex
  cases r1
  have I4 : Inv X pins σ H3 { s3 with heap := s3.heap.push { cls := .type "slice", data := .fields #[.none, .none, vk] } } := I3.kept (t' := s3.toks) fun b ob q => Heap.get?_push_of_some _ q
  obtain ⟨its, r, ht, hz⟩ := I4.list hx
  have hlen := r.length
  refine tail_any (ops := [.ref a, .ref s3.heap.objs.size]) ht.isList.typeIs slot_list_getitem.lookup ?_ (hsub _ _)
  refine wpAny_getItem_list_slice ht.isList (Heap.IsSliceOf.new ..) .none .none pk (by simp) ?_ (by rw [List.size_toArray] <;> omega)
  rw [PySem.W.krv_pick]
  refine ⟨.ref _, _, I4.laid (t' := s3.toks) (o := .lst xs.reverse) (fun b ob q => Heap.get?_push_of_some _ q) (Nat.le_refl _) ?_, rfl, q _ (I4.hok.fresh (Nat.le_refl _))⟩
  exact ⟨by rw [List.length_reverse]; exact hz, _, 0, r.reverse, Heap.get?_push_size _ rfl⟩
section
variable {P : Program} {w : World} {K : PySem.W.Frag} {mg : Str → Option Value} {base : Heap} {N : List Str} {sc : Scope} {fn : Str → Bool} {k : Nat}
variable {M : Fm P w K mg base N sc fn k}
variable {S : Type} {O : S → Res} {Γ : Asrt} {s : S} {α β γ ρ : Type} {ra : RP α} {rb : RP β} {rc : RP γ} {A : ρ → VA}
theorem xe_revL {e : Expr} {j1 : Nat} {p0 p1 p2 pos : Pos} {wa : (List α → S → Prop) → Prop} (he : XE M O Γ s e (fz (pL K ra)) wa) :
    XE M O Γ s (.Subscript e (.Slice none none (some (.UnaryOp .USub (.Constant (.int 1) j1 p0) p1)) p2) pos) (ol ra) (fun k => wa fun x s1 => k x.reverse s1) := by
  intro HI C Q σ F H st hq hc
  refine ⟨tRev K (rdE M e) (rdE M (.UnaryOp .USub (.Constant (.int 1) j1 p0) p1)), fun i => (by have h := pe_rev (X := M.X i) (p2 := p2) (pos := pos) (rdE_ok (M := M) i (e := e)) (rdE_ok (M := M) i (e := .UnaryOp .USub (.Constant (.int 1) j1 p0) p1)); rw [M.kf i] at h; exact h), ?_⟩
  refine he HI _ _ σ F H st (fun x s1 v F1 H1 c1 e1 sv1 => ?_) hc
  obtain ⟨⟨a, vs, ea, hs, al⟩, st1⟩ := sv1.fz
  refine xe_neg (M := M) (O := O) (Γ := Γ) (s := s1) (pos := p1) (xe_int (j := j1) (pos := p0)) HI (fun z s2 => z = -1 ∧ s2 = s1) _ σ F1 H1 st1 (fun z s2 u F2 H2 c2 e2 sv2 => ?_) ⟨rfl, rfl⟩
  obtain ⟨ez, es⟩ := c2
  subst ez es
  obtain ⟨rz, st2⟩ := sv2.fz
  refine ⟨-1, rz, rfl, a, vs, ea, SqL.mono (e2.trans st2.ok) hs, fun p hp => ?_⟩
  exact hq _ s2 _ F2 _ c1 (e1.trans e2) (st2.newV hp ⟨p, _, rfl, rfl, (al.imp fun _ _ q => ra.mono e2 q).reverse⟩)
/-- t[0], t[1] of a pair -/
theorem xe_pick2_0 {a : Expr} {j0 : Nat} {p0 pos : Pos} {wa : (α × β → S → Prop) → Prop} (ha : XE M O Γ s a (fz (pP K ra rb)) wa) : XE M O Γ s (.Subscript a (.Constant (.int 0) j0 p0) pos) (fz ra) (fun k => wa fun x s1 => k x.1 s1) := by
  intro HI C Q σ F H st hq hc
  refine ⟨_, fun i => pe_ix (by have h := ix_tup (X := M.X i); rw [M.kf i] at h; exact h) (rdE_ok i) (rdE_ok i) (by intro _ _; rfl), ?_⟩
  refine ha HI _ _ σ F H st (fun x s1 v F1 H1 c1 e1 sv1 => ?_) hc
  obtain ⟨⟨t, u1, u2, ev, hs, r1, r2⟩, st1⟩ := sv1.fz
  refine xe_int (M := M) (O := O) (Γ := Γ) (s := s1) (i := 0) HI (fun z s2 => z = 0 ∧ s2 = s1) _ σ F1 H1 st1 (fun z s2 u F2 H2 c2 e2 sv2 => ?_) ⟨rfl, rfl⟩
  obtain ⟨ez, es⟩ := c2
  subst ez es
  obtain ⟨rz, st2⟩ := sv2.fz
  exact ⟨t, [u1, u2], 0, u1, ev, rz, SqT.mono (e2.trans st2.ok) hs, rfl, hq _ s2 _ F2 _ c1 (e1.trans e2) (st2.val (ra.mono e2 r1))⟩
theorem xe_pick2_1 {a : Expr} {j0 : Nat} {p0 pos : Pos} {wa : (α × β → S → Prop) → Prop} (ha : XE M O Γ s a (fz (pP K ra rb)) wa) : XE M O Γ s (.Subscript a (.Constant (.int 1) j0 p0) pos) (fz rb) (fun k => wa fun x s1 => k x.2 s1) := by
  intro HI C Q σ F H st hq hc
  refine ⟨_, fun i => pe_ix (by have h := ix_tup (X := M.X i); rw [M.kf i] at h; exact h) (rdE_ok i) (rdE_ok i) (by intro _ _; rfl), ?_⟩
  refine ha HI _ _ σ F H st (fun x s1 v F1 H1 c1 e1 sv1 => ?_) hc
  obtain ⟨⟨t, u1, u2, ev, hs, r1, r2⟩, st1⟩ := sv1.fz
  refine xe_int (M := M) (O := O) (Γ := Γ) (s := s1) (i := 1) HI (fun z s2 => z = 1 ∧ s2 = s1) _ σ F1 H1 st1 (fun z s2 u F2 H2 c2 e2 sv2 => ?_) ⟨rfl, rfl⟩
  obtain ⟨ez, es⟩ := c2
  subst ez es
  obtain ⟨rz, st2⟩ := sv2.fz
  exact ⟨t, [u1, u2], 1, u2, ev, rz, SqT.mono (e2.trans st2.ok) hs, rfl, hq _ s2 _ F2 _ c1 (e1.trans e2) (st2.val (rb.mono e2 r2))⟩
/-- xs.index(y): it is there -/
theorem xe_index [DecidableEq α] {a b : Expr} {ap cp : Pos} {wa : (List α → S → Prop) → Prop} {wb : S → (α → S → Prop) → Prop} (f : Flt ra) (ha : XE M O Γ s a (fz (pL K ra)) wa) (hb : ∀ s', XE M O Γ s' b (fz ra) (wb s')) (hns : NoStar b := by intro _ _; rfl)
    (hbase : ∀ env, attributeBase a "index" env (eval a env) = eval a env := by intro _; rfl)
    (hfew : ∀ env, ((backTo cp (starEach [b] env)).all (fun x => !x.1) && (backToKw cp (keywordEach [] env)).all (fun x => x.1.isSome) && decide ([b].length + ([] : List Keyword).length + (if ([] : List Keyword).isEmpty then 0 else 1) < 30)) = true := by intro _; rfl)
    (hline : (ap.endLine == cp.line) = true := by rfl) :
    XE M O Γ s (.Call (.Attribute a "index" ap) [b] [] cp) (fz pI) (fun k => wa fun x s1 => wb s1 fun y s2 => ∃ j : Nat, x[j]? = some y ∧ (∀ m, m < j → x[m]? ≠ some y) ∧ k (j : Int) s2) := by
  intro HI C Q σ F H st hq hc
  refine ⟨tBM K "list" (rIndex K) (rdE M a) (tCons (rdE M b) tNil), fun i => (by
    have h := pe_bm (X := M.X i) (cpos := cp) PySem.F.plainAttrs_list PySem.F.slot_list_index PySem.F.type_list_index mt_index (rdE_ok (M := M) i) (pa_cons (rdE_ok (M := M) i) pa_nil (hns _ _)) (hbase _) (hfew _) hline (hns _ _) rfl
    rw [M.kf i] at h; exact h), ?_⟩
  refine ha HI _ _ σ F H st (fun x s1 v F1 H1 c1 e1 sv1 => ?_) hc
  obtain ⟨⟨l, vs, ev, hs, al⟩, st1⟩ := sv1.fz
  subst ev
  refine ⟨.inl ⟨rfl, vs, SqL.mono st1.ok hs⟩, ?_⟩
  refine hb s1 HI _ _ σ F1 H1 st1 (fun y s2 u F2 H2 c2 e2 sv2 => ?_) c1
  obtain ⟨ru, st2⟩ := sv2.fz
  obtain ⟨j, hj, hno, c⟩ := c2
  have al2 : All2 (fun x v => ra.r x v F2) x vs := al.imp fun _ _ q => ra.mono e2 q
  obtain ⟨z, hz, rz⟩ := al2.get hj
  refine ⟨l, vs, u, j, z, rfl, rfl, SqL.mono (e2.trans st2.ok) hs, f.flat ru, f.all al2, hz, by rw [f.eq rz ru]; exact decide_eq_true rfl, fun m z' hm hz' => ?_, hq _ s2 _ F2 H2 c (e1.trans e2) (st2.val rfl)⟩
  have hml : m < x.length := by rw [al2.length]; exact (List.getElem?_eq_some_iff.mp hz').1
  obtain ⟨z2, hz2, rz2⟩ := al2.get (List.getElem?_eq_getElem hml)
  rw [hz'] at hz2
  cases hz2
  rw [f.eq rz2 ru]
  refine decide_eq_false fun e => hno m hm ?_
  rw [List.getElem?_eq_getElem hml, e]
end
end Sm

set_option Elab.async false
set_option linter.all false
set_option maxRecDepth 100000
set_option maxHeartbeats 4000000
namespace Sm
open PySem PySem.Spec PyProof.Rows L2
open PySem.W (AllAlike dataLe EachIs)
/-! ### sorted(xs), any data that compare -/
def rSrt (K : PySem.W.Frag) : List V → Hp → VK → Prop := fun args H Q => ∃ (a : Addr) (bs : List (V × PyData)), args = [V.ref a] ∧ SqL K H a (bs.map (·.1)) ∧ DpAll K H (bs.map (·.1)) (bs.map (·.2)) ∧ AllAlike (bs.map (·.2)) ∧ PySem.W.Sortable (bs.map (·.2)) ∧ (∀ b ∈ bs, b.2.depth ≤ 60) ∧
  ∀ p, H p = none → Q (.ref p) (upd H p (.lst ((bs.mergeSort (dataLe false fun b => b.2)).map (·.1))))
theorem each_of {s : Shared} {vs : List Value} {ds : List PyData} {as : List Addr} (h : ReadsAll s.heap vs ds as) : EachIs (fun v d => ∃ as, Reads s.heap v d as) vs ds := by
  have h' : ReadsAll s.heap vs (ds.map id) as := by rw [List.map_id]; exact h
  exact PySem.W.readsAll_each id h'
theorem each_snd {α β γ : Type} {R : α → γ → Prop} {f : β → γ} : ∀ {vs : List α} {bs : List β}, EachIs R vs (bs.map f) → EachIs (fun v b => R v (f b)) vs bs
  | [], [], _ => .nil
  | [], _ :: _, h => by cases h
  | _ :: _, [], h => by cases h
  | _ :: _, _ :: _, .cons h t => .cons h (each_snd t)
theorem each_vals : ∀ {bs : List (V × PyData)} {us : List Value}, Vals (bs.map (·.1)) us → EachIs (fun u b => RelV b.1 u) us bs
  | [], _, h => by cases h; exact .nil
  | _ :: _, _, h => by cases h with | cons r t => exact .cons r (each_vals t)
theorem vals_each : ∀ {bs : List (V × PyData)} {us : List Value}, EachIs (fun u b => RelV b.1 u) us bs → Vals (bs.map (·.1)) us
  | [], _, h => by cases h; exact .nil
  | _ :: _, _, h => by cases h with | cons r t => exact .cons r (vals_each t)
theorem cr_srt {X : Cx} (hu : X.A.units + 64 < cLine) : CallR X (.builtin "sorted") (rSrt X.K) := by
  intro pins s σ H args us Q I r h
  obtain ⟨a, bs, rfl, hs, hd, hal, hk, hdep, q⟩ := h
  obtain ⟨its, rv, hl, hz⟩ := I.list hs
  rw [Vals.ref1 r]
  obtain ⟨as, hr⟩ := Dp.readsAll I _ _ its hd rv
  have hlen : (bs.map (·.1)).length = bs.length := List.length_map ..
  refine PySem.W.sorted_data (bs := bs) (enc := fun b => b.2) (R := fun u b => RelV b.1 u) hl.isList (each_vals rv) (each_snd (each_of hr)) hal hk (by rw [← hlen]; exact hz) (fun b hb => by have := hdep b hb; omega) fun out h1 h2 => ?_
  obtain ⟨ep, he'⟩ := PyProof.Rows.sortedAll_at s.heap its out.toArray
  have hv := vals_each h2
  have hl2 : ((bs.mergeSort (dataLe false fun b => b.2)).map (·.1)).length ≤ sizeLine := by rw [List.length_map, List.length_mergeSort, ← hlen]; exact hz
  exact ⟨.ref _, upd H (s.heap.objs.size + 1) (.lst ((bs.mergeSort (dataLe false fun b => b.2)).map (·.1))), I.laid (t' := s.toks) (fun _ _ => PyProof.Rows.sortedAll_old) (Nat.le_succ _) ⟨hl2, out, ep, hv, he'⟩, rfl, q _ (I.hok.fresh (Nat.le_succ _))⟩
section
variable {P : Program} {w : World} {K : PySem.W.Frag} {mg : Str → Option Value} {base : Heap} {N : List Str} {sc : Scope} {fn : Str → Bool} {k : Nat}
variable {M : Fm P w K mg base N sc fn k}
variable {S : Type} {O : S → Res} {Γ : Asrt} {s : S} {α β γ ρ : Type} {ra : RP α} {rb : RP β} {rc : RP γ} {A : ρ → VA}
/-- things of this kind are sorted by sorted -/
structure Srt [DecidableEq α] (D : Dat K ra) : Prop where
  al : ∀ x y, PySem.W.alike (D.d x) (D.d y) = true
  so : ∀ xs : List α, PySem.W.Sortable (xs.map D.d)
def srt [DecidableEq α] (D : Dat K ra) (xs : List α) : List α := xs.mergeSort (dataLe false D.d)
theorem all2_dp [DecidableEq α] (D : Dat K ra) {F H : Hp} (e : Same F H) : ∀ {xs : List α} {vs : List V}, All2 (fun x v => ra.r x v F) xs vs → ∃ bs : List (V × PyData), bs.map (·.1) = vs ∧ bs.map (·.2) = xs.map D.d ∧ DpAll K H vs (xs.map D.d) ∧ ∃ T : List (α × V), T.map (·.1) = xs ∧ bs = T.map (fun t => (t.2, D.d t.1)) ∧ ∀ t ∈ T, ra.r t.1 t.2 F
  | [], [], _ => ⟨[], rfl, rfl, .nil, [], rfl, rfl, fun _ h => (by cases h)⟩
  | x :: xs, v :: vs, ⟨h, t⟩ => by
    obtain ⟨bs, e1, e2, e3, T, t1, t2, t3⟩ := all2_dp D e t
    refine ⟨(v, D.d x) :: bs, by rw [List.map_cons, e1], by rw [List.map_cons, e2]; rfl, .cons (D.dp e h).1 e3, (x, v) :: T, by rw [List.map_cons, t1], by rw [List.map_cons, t2], fun t ht => ?_⟩
    rcases List.mem_cons.mp ht with rfl | ht
    · exact h
    · exact t3 t ht
theorem all2_of {F : Hp} : ∀ {T : List (α × V)}, (∀ t ∈ T, ra.r t.1 t.2 F) → All2 (fun x v => ra.r x v F) (T.map (·.1)) (T.map (·.2))
  | [], _ => trivial
  | t :: T, h => ⟨h t List.mem_cons_self, all2_of fun u hu => h u (List.mem_cons_of_mem _ hu)⟩
theorem xe_sorted [DecidableEq α] {e : Expr} {p pos : Pos} {wa : (List α → S → Prop) → Prop} (D : Dat K ra) (sD : Srt D) (hm : mg "sorted" = none) (ha : XE M O Γ s e (fz (pL K ra)) wa) (hn : D.n ≤ 60 := by exact Nat.le_of_ble_eq_true rfl) (hg : GlN sc "sorted" := by rfl) (hs : NoStar e := by intro _ _; rfl) :
    XE M O Γ s (.Call (.Name "sorted" p) [e] [] pos) (ol ra) (fun k => wa fun x s1 => k (srt D x) s1) := by
  refine xe_cb1 (A := ol ra) (Wo := fun x k => k (srt D x)) b_sorted (fun i => by have h := cr_srt (X := M.X i) (M.room i).units; rw [M.kf i] at h; exact h) ?_ hm hg ha (by decide) (by decide) hs
  intro S' O' HI Γ' s' σ F H x u C Q st rx hq hc
  obtain ⟨a, vs, rfl, hS, al⟩ := rx
  obtain ⟨bs, e1, e2, e3, T, t1, t2, t3⟩ := all2_dp D st.ok al
  refine ⟨a, bs, rfl, by rw [e1]; exact SqL.mono st.ok hS, by rw [e1, e2]; exact e3, fun d hd d' hd' => ?_, by rw [e2]; exact sD.so x, fun b hb => ?_, fun q hp => ?_⟩
  · rw [e2] at hd hd'
    obtain ⟨y, _, rfl⟩ := List.mem_map.mp hd
    obtain ⟨z, _, rfl⟩ := List.mem_map.mp hd'
    exact sD.al y z
  · have : b.2 ∈ bs.map (·.2) := List.mem_map.mpr ⟨b, hb, rfl⟩
    rw [e2] at this
    obtain ⟨y, _, ey⟩ := List.mem_map.mp this
    rw [← ey]; exact Nat.le_trans (D.dep y) hn
  · have m1 : (T.mergeSort (dataLe false fun t => D.d t.1)).map (·.1) = srt D x := by
      unfold srt
      rw [← t1]
      exact List.map_mergeSort (s := dataLe false D.d) fun _ _ _ _ => rfl
    have m2 : (bs.mergeSort (dataLe false fun b => b.2)).map (·.1) = (T.mergeSort (dataLe false fun t => D.d t.1)).map (·.2) := by
      rw [t2, ← List.map_mergeSort (r := dataLe false fun t : α × V => D.d t.1) (s := dataLe false fun b : V × PyData => b.2) (f := fun t : α × V => (t.2, D.d t.1)) (fun _ _ _ _ => rfl), List.map_map]
      rfl
    rw [m2]
    refine hq _ _ F _ hc (Same.refl _) (st.newV hp ⟨q, _, rfl, rfl, ?_⟩)
    rw [← m1]
    exact all2_of fun t ht => t3 t (List.mem_mergeSort.mp ht)
end
end Sm

set_option Elab.async false
set_option linter.all false
set_option maxRecDepth 100000
set_option maxHeartbeats 4000000
namespace Sm
open PySem PySem.Spec PyProof.Rows L2
section
variable {K : PySem.W.Frag} {α β : Type} {ra : RP α} {rb : RP β}
theorem sI : Srt (dI (K := K)) := ⟨fun x y => by show PySem.W.alike (.int x) (.int y) = true; simp only [PySem.W.alike], fun xs => .inr fun d hd => by
  obtain ⟨x, _, rfl⟩ := List.mem_map.mp hd
  exact ⟨fun e => PyData.noConfusion e, fun ys e => PyData.noConfusion e⟩⟩
theorem sT : Srt (dT (K := K)) := ⟨fun x y => by show PySem.W.alike (.str _) (.str _) = true; simp only [PySem.W.alike], fun xs => .inr fun d hd => by
  obtain ⟨x, _, rfl⟩ := List.mem_map.mp hd
  exact ⟨fun e => PyData.noConfusion e, fun ys e => PyData.noConfusion e⟩⟩
theorem sP [DecidableEq α] [DecidableEq β] {D : Dat K ra} {E : Dat K rb} (h : Srt D) (g : Srt E) : Srt (dP D E) := ⟨fun x y => by
  show PySem.W.alike (.tuple [D.d x.1, E.d x.2]) (.tuple [D.d y.1, E.d y.2]) = true
  simp only [PySem.W.alike, PySem.W.alikeAll, h.al, g.al, Bool.and_self], fun xs => .inl fun d hd => by
  obtain ⟨x, _, rfl⟩ := List.mem_map.mp hd
  exact ⟨_, _, rfl⟩⟩
theorem alike_all [DecidableEq α] {D : Dat K ra} (h : Srt D) : ∀ xs ys : List α, PySem.W.alikeAll (xs.map D.d) (ys.map D.d) = true
  | [], _ => by rw [List.map_nil, PySem.W.alikeAll]
  | _ :: _, [] => by rw [List.map_nil, List.map_cons, PySem.W.alikeAll]
  | x :: xs, y :: ys => by
    rw [List.map_cons, List.map_cons, PySem.W.alikeAll, h.al, alike_all h xs ys]; rfl
theorem sL [DecidableEq α] {D : Dat K ra} (h : Srt D) : Srt (dL D) := ⟨fun x y => by
  show PySem.W.alike (.list (x.map D.d)) (.list (y.map D.d)) = true
  rw [PySem.W.alike]; exact alike_all h x y, fun xs => .inr fun d hd => by
  obtain ⟨x, _, rfl⟩ := List.mem_map.mp hd
  exact ⟨fun e => PyData.noConfusion e, fun ys e => PyData.noConfusion e⟩⟩
end
end Sm
namespace Sm
open PySem PySem.Spec PyProof.Rows L2
/-! ### <, >, <=, >= of any data that compare -/
def rCmpD (K : PySem.W.Frag) (f : PyData → PyData → Bool) : R2 := fun x y H Q => ∃ d e, Dp K H x d ∧ Dp K H y e ∧ PySem.W.alike d e = true ∧ d ≠ .none ∧ d.depth ≤ 60 ∧ Q (.bl (f d e)) H
section
variable {X : Cx}
theorem op_ltD (hu : X.A.units + 64 < cLine) : OpR X (compareOp .Lt) (rCmpD X.K PySem.W.dataLt) := by
  intro pins s σ H x y v u Q I rx ry ⟨d, e, hd, he, al, nn, dep, q⟩
  obtain ⟨as, ra⟩ := Dp.reads I d x v hd rx
  obtain ⟨bs, rb⟩ := Dp.reads I e y u he ry
  exact PySem.W.lt_data ra rb al nn (by omega) ⟨.bl _, H, I, rfl, q⟩
theorem op_gtD (hu : X.A.units + 64 < cLine) : OpR X (compareOp .Gt) (rCmpD X.K fun d e => PySem.W.dataLt e d) := by
  intro pins s σ H x y v u Q I rx ry ⟨d, e, hd, he, al, nn, dep, q⟩
  obtain ⟨as, ra⟩ := Dp.reads I d x v hd rx
  obtain ⟨bs, rb⟩ := Dp.reads I e y u he ry
  exact PySem.W.gt_data ra rb al nn (by omega) ⟨.bl _, H, I, rfl, q⟩
theorem op_leD (hu : X.A.units + 64 < cLine) : OpR X (compareOp .LtE) (rCmpD X.K fun d e => !PySem.W.dataLt e d) := by
  intro pins s σ H x y v u Q I rx ry ⟨d, e, hd, he, al, nn, dep, q⟩
  obtain ⟨as, ra⟩ := Dp.reads I d x v hd rx
  obtain ⟨bs, rb⟩ := Dp.reads I e y u he ry
  exact PySem.W.le_data ra rb al nn (by omega) ⟨.bl _, H, I, rfl, q⟩
theorem op_geD (hu : X.A.units + 64 < cLine) : OpR X (compareOp .GtE) (rCmpD X.K fun d e => !PySem.W.dataLt d e) := by
  intro pins s σ H x y v u Q I rx ry ⟨d, e, hd, he, al, nn, dep, q⟩
  obtain ⟨as, ra⟩ := Dp.reads I d x v hd rx
  obtain ⟨bs, rb⟩ := Dp.reads I e y u he ry
  exact PySem.W.ge_data ra rb al nn (by omega) ⟨.bl _, H, I, rfl, q⟩
end
section
variable {P : Program} {w : World} {K : PySem.W.Frag} {mg : Str → Option Value} {base : Heap} {N : List Str} {sc : Scope} {fn : Str → Bool} {k : Nat}
variable {M : Fm P w K mg base N sc fn k}
variable {S : Type} {O : S → Res} {Γ : Asrt} {s : S} {α β γ ρ : Type} {ra : RP α} {rb : RP β} {rc : RP γ} {A : ρ → VA}
/-- comes ahead, for things of this kind -/
def ltD [DecidableEq α] (D : Dat K ra) (x y : α) : Bool := PySem.W.dataLt (D.d x) (D.d y)
structure Cmp [DecidableEq α] (D : Dat K ra) : Prop where
  s : Srt D
  nn : ∀ x, D.d x ≠ .none
  dep : D.n ≤ 60
theorem o_cmpD [DecidableEq α] {D : Dat K ra} (c : Cmp D) {f : PyData → PyData → Bool} : Op2 (rCmpD K f) ra ra (fz pB) (fun x y k => k (f (D.d x) (D.d y))) :=
  fun O HI Γ s σ F H x y u v C Q st rx ry hq hc => ⟨D.d x, D.d y, (D.dp st.ok rx).1, (D.dp st.ok ry).1, c.s.al x y, c.nn x, Nat.le_trans (D.dep x) c.dep, hq _ _ F H hc (Same.refl _) (st.val rfl)⟩
variable {a b : Expr} {wa : (α → S → Prop) → Prop} {wb : S → (α → S → Prop) → Prop}
theorem xc_ltD [DecidableEq α] {D : Dat K ra} (c : Cmp D) (ha : XE M O Γ s a (fz ra) wa) (hb : ∀ s', XE M O Γ s' b (fz ra) (wb s')) : XC M O Γ s .Lt a b (fun k => wa fun x s1 => wb s1 fun y s2 => k (ltD D x y) s2) :=
  xc_op (fun i => by have h := op_ltD (X := M.X i) (M.room i).units; rw [M.kf i] at h; exact h) (o_cmpD c) ha hb
theorem xc_gtD [DecidableEq α] {D : Dat K ra} (c : Cmp D) (ha : XE M O Γ s a (fz ra) wa) (hb : ∀ s', XE M O Γ s' b (fz ra) (wb s')) : XC M O Γ s .Gt a b (fun k => wa fun x s1 => wb s1 fun y s2 => k (ltD D y x) s2) :=
  xc_op (fun i => by have h := op_gtD (X := M.X i) (M.room i).units; rw [M.kf i] at h; exact h) (o_cmpD (f := fun d e => PySem.W.dataLt e d) c) ha hb
theorem xc_leD [DecidableEq α] {D : Dat K ra} (c : Cmp D) (ha : XE M O Γ s a (fz ra) wa) (hb : ∀ s', XE M O Γ s' b (fz ra) (wb s')) : XC M O Γ s .LtE a b (fun k => wa fun x s1 => wb s1 fun y s2 => k (!ltD D y x) s2) :=
  xc_op (fun i => by have h := op_leD (X := M.X i) (M.room i).units; rw [M.kf i] at h; exact h) (o_cmpD (f := fun d e => !PySem.W.dataLt e d) c) ha hb
theorem xc_geD [DecidableEq α] {D : Dat K ra} (c : Cmp D) (ha : XE M O Γ s a (fz ra) wa) (hb : ∀ s', XE M O Γ s' b (fz ra) (wb s')) : XC M O Γ s .GtE a b (fun k => wa fun x s1 => wb s1 fun y s2 => k (!ltD D x y) s2) :=
  xc_op (fun i => by have h := op_geD (X := M.X i) (M.room i).units; rw [M.kf i] at h; exact h) (o_cmpD (f := fun d e => !PySem.W.dataLt d e) c) ha hb
theorem cT : Cmp (dT (K := K)) := ⟨sT, fun x e => PyData.noConfusion e, by exact Nat.le_of_ble_eq_true rfl⟩
theorem cLI : Cmp (dL (dI (K := K))) := ⟨sL sI, fun x e => PyData.noConfusion e, by exact Nat.le_of_ble_eq_true rfl⟩
/-! ### texts: find -/
def findT (x y : Text) : Int := Txt.find ⟨x.toArray⟩ ⟨y.toArray⟩
theorem xe_find {a b : Expr} {ap cp : Pos} {wa : (Text → S → Prop) → Prop} {wb : S → (Text → S → Prop) → Prop} (ha : XE M O Γ s a (fz pT) wa) (hb : ∀ s', XE M O Γ s' b (fz pT) (wb s')) (hns : NoStar b := by intro _ _; rfl)
    (hbase : ∀ env, attributeBase a "find" env (eval a env) = eval a env := by intro _; rfl)
    (hfew : ∀ env, ((backTo cp (starEach [b] env)).all (fun x => !x.1) && (backToKw cp (keywordEach [] env)).all (fun x => x.1.isSome) && decide ([b].length + ([] : List Keyword).length + (if ([] : List Keyword).isEmpty then 0 else 1) < 30)) = true := by intro _; rfl)
    (hline : (ap.endLine == cp.line) = true := by rfl) :
    XE M O Γ s (.Call (.Attribute a "find" ap) [b] [] cp) (fz pI) (fun k => wa fun x s1 => wb s1 fun y s2 => k (findT x y) s2) := by
  intro HI C Q σ F H st hq hc
  refine ⟨tBM K "str" (fun x xs H Q => ∃ a b, x = .str a ∧ xs = [.str b] ∧ Q (.int (Txt.find a b)) H) (rdE M a) (tCons (rdE M b) tNil), fun i => (by
    have h := pe_bm (X := M.X i) (cpos := cp) PySem.F.plainAttrs_str PySem.F.slot_str_find PySem.F.type_str_find mt_find (rdE_ok (M := M) i) (pa_cons (rdE_ok (M := M) i) pa_nil (hns _ _)) (hbase _) (hfew _) hline (hns _ _) rfl
    rw [M.kf i] at h; exact h), ?_⟩
  refine ha HI _ _ σ F H st (fun x s1 v F1 H1 c1 e1 sv1 => ?_) hc
  obtain ⟨⟨ev, okx⟩, st1⟩ := sv1.fz
  subst ev
  refine ⟨rfl, ?_⟩
  refine hb s1 HI _ _ σ F1 H1 st1 (fun y s2 u F2 H2 c2 e2 sv2 => ?_) c1
  obtain ⟨⟨eu, oky⟩, st2⟩ := sv2.fz
  subst eu
  exact ⟨_, _, rfl, rfl, hq _ s2 _ F2 H2 c2 (e1.trans e2) (st2.val rfl)⟩
end
end Sm

set_option Elab.async false
set_option linter.all false
set_option maxRecDepth 100000
set_option maxHeartbeats 4000000
namespace Sm
open PySem PySem.Spec PyProof.Rows L2
/-! ### xs.extend(ys), ys any list or tuple -/
theorem ext_any (T2 : String) (hT : T2 = "list" ∨ T2 = "tuple") (l b : Addr) (xs ys : Array Value) (n m : Nat) (d2 : Option Addr) (s2 : Array (Option Value)) (h0 : ¬(!xs.isEmpty && Builtin.List.listTooLong (xs.size + ys.size)) = true) (h1 : xs.size ≤ sizeLine)
    (h2 : xs.size + ys.size ≤ sizeLine + 1) :
    Meets (Builtin.«list.extend» ⟨[.ref l, .ref b], []⟩) (fun _ R s =>
      s.heap.get? l = some { cls := .type "list", dict := none, data := .seq xs n, slots := #[] } ∧
      s.heap.get? b = some { cls := .type T2, dict := d2, data := .seq ys m, slots := s2 } ∧
      R (.ok (.ret Value.none)) { s with heap := s.heap.update l (Obj.mapSeq fun x => x ++ ys), toks := s.toks }) :=
  .of_wp fun prog w A R s h => by
    obtain ⟨hp, g, d, tk, os⟩ := s
    obtain ⟨hl, hb, h⟩ := h
    have g1 := AutoSeq1.idx_int
    have g2 := AutoSeq1.sub_tuple_tuple
    have g3 := AutoSeq1.sub_list_list
    have g4 := AutoSeq1.sub_tuple_list
    have g5 := AutoSeq1.sub_list_tuple
    have hz' : (xs ++ ys).size ≤ sizeLine + 1 := by rw [Array.size_append]; exact h2
    rcases hT with rfl | rfl
    · wp_walk using (wpAny_updateSeq hl rfl (hz := h1) (_hz' := hz')), wpAny_loadPart' hl, wpAny_loadPart' hb
      exact ⟨_, rfl, h⟩
    · wp_walk using (wpAny_updateSeq hl rfl (hz := h1) (_hz' := hz')), wpAny_loadPart' hl, wpAny_loadPart' hb
      exact ⟨_, rfl, h⟩
def rExtSq (K : PySem.W.Frag) : V → List V → Hp → VK → Prop := fun x vs H Q => ∃ l b xs zs, x = .ref l ∧ vs = [.ref b] ∧ H l = some (.lst xs) ∧ (SqL K H b zs ∨ SqT K H b zs) ∧ xs.length + zs.length ≤ sizeLine ∧ Q .non (upd H l (.lst (xs ++ zs)))
theorem mt_extSq {X : Cx} : MtM X "list.extend" (rExtSq X.K) := by
  intro pins s σ H x vs v us Q I rx rv h
  obtain ⟨l, b, xs, zs, rfl, rfl, hH, hB, hz, q⟩ := h
  cases rx
  obtain ⟨u, rfl, ru⟩ := rv.one
  cases ru
  obtain ⟨z, its, n, r, hl, e⟩ := I.lstM hH
  obtain ⟨its2, T2, hT, o2, r2, ho2, hc2, m, hd2⟩ : ∃ (its2 : List Value) (T2 : String), (T2 = "list" ∨ T2 = "tuple") ∧ ∃ o2 : Obj, Vals zs its2 ∧ s.heap.get? b = some o2 ∧ o2.cls = .type T2 ∧ ∃ m, o2.data = .seq its2.toArray m := by
    rcases hB with hB | hB
    · obtain ⟨its2, r2, pl, _⟩ := I.list hB
      obtain ⟨o2, ho2, hc2, m, hd2⟩ := pl.isList
      exact ⟨its2, "list", .inl rfl, o2, r2, ho2, hc2, m, hd2⟩
    · obtain ⟨its2, r2, pl, _⟩ := I.tuple hB
      obtain ⟨o2, ho2, hc2, m, hd2⟩ := pl
      exact ⟨its2, "tuple", .inr rfl, o2, r2, ho2, hc2, m, hd2⟩
  obtain ⟨cls2, dd2, data2, sl2⟩ := o2
  simp only at hc2 hd2
  subst hc2 hd2
  have hl2 := r2.length
  have hsz : its.toArray.size + its2.toArray.size ≤ sizeLine := by rw [List.size_toArray, List.size_toArray]; omega
  have hlong : ¬ (!its.toArray.isEmpty && Builtin.List.listTooLong (its.toArray.size + its2.toArray.size)) = true := by
    rw [notLongL hsz, Bool.and_false]
    exact Bool.false_ne_true
  refine call_meets F.slot_list_extend ⟨_, e, rfl⟩ F.entry_list_extend (F.args_list_extend_2 _ _) (ext_any T2 hT l b _ _ n m dd2 sl2 hlong (by omega) (by omega)) ⟨e, ho2, ?_⟩
  refine ⟨.non, _, I.lset (its' := its ++ its2) hH e (by simp) (r.append r2) ?_, rfl, q⟩
  rw [List.length_append]
  omega
end Sm
namespace Sm
open PySem PySem.Spec PyProof.Rows L2
section
variable {P : Program} {w : World} {K : PySem.W.Frag} {mg : Str → Option Value} {base : Heap} {N : List Str} {sc : Scope} {fn : Str → Bool} {k : Nat}
variable {M : Fm P w K mg base N sc fn k}
variable {S : Type} {O : S → Res} {Γ : Asrt} {s : S} {α β γ ρ : Type} {ra : RP α} {rb : RP β} {rc : RP γ} {A : ρ → VA}
section
variable {HI F0 : Hp} {D : Ends} {e : Expr} {x : Str} {p1 ap cp pos : Pos} {rest : List Stmt} {xs : List α} {W : (List α → S → Prop) → Prop} {Pk : List α → S → Prop}
theorem ext_run (rq : RP (List α)) (hq : ∀ {y u F}, rq.r y u F → ∃ b ws, u = .ref b ∧ (SqL K F b ws ∨ SqT K F b ws) ∧ All2 (fun x v => ra.r x v F) y ws) (i : Nat) (hΓ : Γ[i]? = some (some (ol ra xs))) (he : XE M O Γ s e (fz rq) W) (hk : ∀ y s', XSs M O HI F0 (Γ.set i (some (ol ra (xs ++ y)))) s' rest D (Pk y s'))
    (hN : N[i]? = some x) (hv : Vis sc x) (hd : (x == ("__debug__" : Str)) = false) (hcd : (x == ("__classdict__" : Str)) = false) (hns : NoStar e)
    (hfew : ∀ env, ((backTo cp (starEach [e] env)).all (fun x => !x.1) && (backToKw cp (keywordEach [] env)).all (fun x => x.1.isSome) && decide ([e].length + ([] : List Keyword).length + (if ([] : List Keyword).isEmpty then 0 else 1) < 30)) = true)
    (hline : (ap.endLine == cp.line) = true) (hs : ∀ j, swapsWith (.Call (.Attribute (.Name x p1) "extend" ap) [e] [] cp) none pos.line (M.X j).env = pure false) :
    XSs M O HI F0 Γ s (.Expr (.Call (.Attribute (.Name x p1) "extend" ap) [e] [] cp) pos :: rest) D (W fun y s' => xs.length + y.length ≤ sizeLine ∧ Pk y s') := by
  intro σ F H e0 st hp
  refine ⟨_, fun j => pss_cons (ps_expr (by
    have h := pe_bm (X := M.X j) (cpos := cp) PySem.F.plainAttrs_list PySem.F.slot_list_extend PySem.F.type_list_extend mt_extSq (pe_nameO (pos := p1) hN hv hd hcd j) (pa_cons (rdE_ok (M := M) j) pa_nil (hns _ _)) rfl (hfew _) hline (hns _ _) rfl
    rw [M.kf j] at h; exact h) (hs j)) (rdSs_ok j), ?_⟩
  obtain ⟨a, vs, ea, eh, al, _⟩ := st.own hΓ
  refine ⟨.ref a, ea, .inl ⟨rfl, vs, SqL.of eh⟩, ?_⟩
  refine he HI _ _ σ F H st (fun y s' u F' H' c e1 sv => ?_) hp
  obtain ⟨ry, st'⟩ := sv.fz
  obtain ⟨b, ws, eu, hsq, alb⟩ := hq ry
  subst eu
  obtain ⟨a', vs', ea', eh', al', up⟩ := st'.own hΓ
  rw [ea] at ea'; cases ea'
  refine ⟨a, b, vs', ws, rfl, rfl, eh', hsq.imp (SqL.mono st'.ok) (SqT.mono st'.ok), by rw [← al'.length, ← alb.length]; exact c.1, ?_⟩
  exact hk y s' σ F' _ (e0.trans e1) (up _ _ (al'.append alb)) c.2
theorem xs_extendF (i : Nat) (hΓ : Γ[i]? = some (some (ol ra xs))) (he : XE M O Γ s e (fz (pL K ra)) W) (hk : ∀ y s', XSs M O HI F0 (Γ.set i (some (ol ra (xs ++ y)))) s' rest D (Pk y s'))
    (hN : N[i]? = some x := by rfl) (hv : Vis sc x := by first | exact Or.inl rfl | exact Or.inr (Or.inl rfl) | exact Or.inr (Or.inr rfl)) (hd : (x == ("__debug__" : Str)) = false := by decide) (hcd : (x == ("__classdict__" : Str)) = false := by decide)
    (hns : NoStar e := by intro _ _; rfl) (hfew : ∀ env, ((backTo cp (starEach [e] env)).all (fun x => !x.1) && (backToKw cp (keywordEach [] env)).all (fun x => x.1.isSome) && decide ([e].length + ([] : List Keyword).length + (if ([] : List Keyword).isEmpty then 0 else 1) < 30)) = true := by intro _; rfl)
    (hline : (ap.endLine == cp.line) = true := by rfl) (hs : ∀ j, swapsWith (.Call (.Attribute (.Name x p1) "extend" ap) [e] [] cp) none pos.line (M.X j).env = pure false := by intro _; rfl) :
    XSs M O HI F0 Γ s (.Expr (.Call (.Attribute (.Name x p1) "extend" ap) [e] [] cp) pos :: rest) D (W fun y s' => xs.length + y.length ≤ sizeLine ∧ Pk y s') :=
  ext_run (pL K ra) (fun ⟨b, ws, h1, h2, h3⟩ => ⟨b, ws, h1, .inl h2, h3⟩) i hΓ he hk hN hv hd hcd hns hfew hline hs
theorem xs_extendU (i : Nat) (hΓ : Γ[i]? = some (some (ol ra xs))) (he : XE M O Γ s e (fz (pU K ra)) W) (hk : ∀ y s', XSs M O HI F0 (Γ.set i (some (ol ra (xs ++ y)))) s' rest D (Pk y s'))
    (hN : N[i]? = some x := by rfl) (hv : Vis sc x := by first | exact Or.inl rfl | exact Or.inr (Or.inl rfl) | exact Or.inr (Or.inr rfl)) (hd : (x == ("__debug__" : Str)) = false := by decide) (hcd : (x == ("__classdict__" : Str)) = false := by decide)
    (hns : NoStar e := by intro _ _; rfl) (hfew : ∀ env, ((backTo cp (starEach [e] env)).all (fun x => !x.1) && (backToKw cp (keywordEach [] env)).all (fun x => x.1.isSome) && decide ([e].length + ([] : List Keyword).length + (if ([] : List Keyword).isEmpty then 0 else 1) < 30)) = true := by intro _; rfl)
    (hline : (ap.endLine == cp.line) = true := by rfl) (hs : ∀ j, swapsWith (.Call (.Attribute (.Name x p1) "extend" ap) [e] [] cp) none pos.line (M.X j).env = pure false := by intro _; rfl) :
    XSs M O HI F0 Γ s (.Expr (.Call (.Attribute (.Name x p1) "extend" ap) [e] [] cp) pos :: rest) D (W fun y s' => xs.length + y.length ≤ sizeLine ∧ Pk y s') :=
  ext_run (pU K ra) (fun ⟨b, ws, h1, h2, h3⟩ => ⟨b, ws, h1, .inr h2, h3⟩) i hΓ he hk hN hv hd hcd hns hfew hline hs
end
end
end Sm

set_option Elab.async false
set_option linter.all false
set_option maxRecDepth 100000
set_option maxHeartbeats 4000000
namespace Sm
open PySem PySem.Spec PyProof.Rows L2
def eI : Int → PyData := .int
def eT : Text → PyData := fun x => .str ⟨x.toArray⟩
def eL {α : Type} (e : α → PyData) : List α → PyData := fun xs => .list (xs.map e)
def eU {α : Type} (e : α → PyData) : List α → PyData := fun xs => .tuple (xs.map e)
def eP {α β : Type} (e : α → PyData) (f : β → PyData) : α × β → PyData := fun x => .tuple [e x.1, f x.2]
abbrev srtE {α : Type} (e : α → PyData) (xs : List α) : List α := xs.mergeSort (PySem.W.dataLe false e)
abbrev ltE {α : Type} (e : α → PyData) (x y : α) : Bool := PySem.W.dataLt (e x) (e y)
section
variable {P : Program} {w : World} {K : PySem.W.Frag} {mg : Str → Option Value} {base : Heap} {N : List Str} {sc : Scope} {fn : Str → Bool} {k : Nat}
variable {M : Fm P w K mg base N sc fn k}
variable {S : Type} {O : S → Res} {Γ : Asrt} {s : S} {α β γ ρ : Type} {ra : RP α} {rb : RP β} {rc : RP γ} {A : ρ → VA}
theorem cut_whole {xs : List α} {lo hi : Option Int} (h : HT.sIx xs.length 0 lo = 0 ∧ HT.sIx xs.length xs.length hi = xs.length) : cutG xs lo hi = xs := by
  unfold cutG
  rw [h.1, h.2, List.drop_zero, Nat.sub_zero, List.take_length]
/-- t[lo:hi] of a tuple -/
theorem xe_cutU {e : Expr} {lo hi : Option Expr} {p2 pos : Pos} {wa : (List α → S → Prop) → Prop} {wl wh : S → (Option Int → S → Prop) → Prop} (ha : XE M O Γ s e (fz (pU K ra)) wa) (hl : ∀ s', XO M O Γ s' lo (wl s')) (hh : ∀ s', XO M O Γ s' hi (wh s')) :
    XE M O Γ s (.Subscript e (.Slice lo hi none p2) pos) (fz (pU K ra)) (fun k => wa fun x s1 => wl s1 fun l s2 => wh s2 fun h s3 => k (cutG x l h) s3) := by
  intro HI C Q σ F H st hq hc
  refine ⟨tSl (rSlA K) (rdE M e) (rdO M lo) (rdO M hi), fun i => (by have h := pe_slice (X := M.X i) (pos := pos) (p2 := p2) sl_tupA (rdE_ok (M := M) i (e := e)) (rdO_ok (M := M) i (e := lo)) (rdO_ok (M := M) i (e := hi)); rw [M.kf i] at h; exact h), ha HI _ _ σ F H st (fun x s1 u F1 H1 c1 e1 sv1 => ?_) hc⟩
  obtain ⟨⟨a, vs, h1, h2, h3⟩, st1⟩ := sv1.fz
  refine hl s1 HI _ _ σ F1 H1 st1 (fun l s2 F2 H2 c2 e2 st2 => hh s2 HI _ _ σ F2 H2 st2 (fun h s3 F3 H3 c3 e3 st3 => ?_) c2) c1
  have a3 := h3.imp fun _ _ q => ra.mono (e2.trans e3) q
  refine ⟨a, vs, h1, SqT.mono ((e2.trans e3).trans st3.ok) h2, fun hw => ?_, fun _ p hp => ?_⟩
  · refine hq _ s3 _ F3 _ c3 (e1.trans (e2.trans e3)) (st3.val ⟨a, vs, rfl, SqT.mono (e2.trans e3) h2, ?_⟩)
    rw [cut_whole (by rw [a3.length]; exact hw)]; exact a3
  · obtain ⟨e4, st4⟩ := st3.newF (o := .tup (cutV vs l h)) hp
    exact hq _ s3 _ _ _ c3 (e1.trans (e2.trans (e3.trans e4))) (st4.val ⟨p, _, rfl, .inl (.inl upd_same), (a3.cut l h).imp fun _ _ q => ra.mono e4 q⟩)
end
end Sm
namespace Sm
open PySem PySem.Spec PyProof.Rows L2
/-! ### text[::-1] -/
def tRevS (te tk : TE) : TE := fun σ H Q => te σ H fun x H1 => tPart tk σ H1 fun o H2 => o = some (-1) ∧ ∃ a : Text, x = .str ⟨a.toArray⟩ ∧ a.length ≤ sizeLine ∧ Q (.str ⟨a.reverse.toArray⟩) H2
theorem rev_text (a : Text) (t : Tok) : Txt.sliceBy ⟨a.toArray⟩ none none (-1, t) = ⟨a.reverse.toArray⟩ := by
  have h := step_rev_list ⟨a.toArray⟩ t
  have hl : (⟨a.toArray⟩ : Str).length = a.length := by simp [Str.length]
  have e : (Txt.sliceBy ⟨a.toArray⟩ none none (-1, t)).cps.toList = a.reverse := by
    rw [h, hl]
    refine List.ext_getElem (by simp) fun i h1 h2 => ?_
    rw [List.getElem_map, List.getElem_range, List.getElem_reverse]
    have hi : a.length - 1 - i < a.length := by simp at h1; omega
    show a.toArray.getD (a.length - 1 - i) 0 = _
    simp [Array.getD, hi]
  have e2 : (Txt.sliceBy ⟨a.toArray⟩ none none (-1, t)).cps = a.reverse.toArray := by rw [← e]
  calc Txt.sliceBy ⟨a.toArray⟩ none none (-1, t) = ⟨(Txt.sliceBy ⟨a.toArray⟩ none none (-1, t)).cps⟩ := rfl
    _ = _ := by rw [e2]
theorem pe_revS {X : Cx} {e kx : Expr} {te tk : TE} {p2 pos : Pos} (he : PE X e te) (hk : PE X kx tk) (hsub : ∀ (a : Value) (b : Addr), subscripted (.Slice none none (some kx) p2) false a (.ref b) = operate [a, .ref b] (getItem a (.ref b)) := by intro _ _; rfl) : PE X (.Subscript e (.Slice none none (some kx) p2) pos) (tRevS te tk) := by
  refine ⟨fun pins s σ H Q I h => ?_⟩
  refine Subscript_ (thn (he.run pins s σ H _ I h) fun v s1 ⟨x, H1, I1, r1, q1⟩ => ?_)
  refine wpAny_Slice ?_
  rw [evalPart_none]
  refine wpAny_pure (wpAny_pure ?_)
  refine thn ((po_some hk).run pins s1 σ H1 _ I1 q1) fun vk s3 ⟨o, H3, I3, pk, eo, a, ex, hz, q⟩ => ?_
  subst eo ex
  obtain ⟨tv, rfl⟩ := r1
  obtain ⟨t, rfl⟩ : ∃ t, vk = .int (-1) t := by cases pk; exact ⟨_, rfl⟩
  have I4 : Inv X pins σ H3 { s3 with heap := s3.heap.push { cls := .type "slice", data := .fields #[.none, .none, .int (-1) t] } } := I3.kept (t' := s3.toks) fun b ob q => Heap.get?_push_of_some _ q
  refine tail_any (ops := [.str ⟨a.toArray⟩ tv, .ref s3.heap.objs.size]) (typeIs_str _ _ _) PySem.F.slot_str_getitem.lookup ?_ (hsub _ _)
  refine PySem.wpAny_getItem_str_slice (l := none) (u := none) (st := some (-1, t)) ⟨_, Heap.get?_push_size _ rfl, rfl, rfl⟩ rfl ?_
  have hr := rev_text a t
  unfold Txt.sliceBy at hr
  rw [if_neg (by simp)] at hr
  unfold sliceMade
  rw [if_neg (by simp), hr]
  refine ⟨?_, .str _, H3, ?_, ⟨_, rfl⟩, q⟩
  · show (a.reverse.toArray).size ≤ _
    rw [List.size_toArray, List.length_reverse]; exact hz
  · exact I4.tok _
section
variable {P : Program} {w : World} {K : PySem.W.Frag} {mg : Str → Option Value} {base : Heap} {N : List Str} {sc : Scope} {fn : Str → Bool} {k : Nat}
variable {M : Fm P w K mg base N sc fn k}
variable {S : Type} {O : S → Res} {Γ : Asrt} {s : S}
theorem xe_revT {e : Expr} {j1 : Nat} {p0 p1 p2 pos : Pos} {wa : (Text → S → Prop) → Prop} (he : XE M O Γ s e (fz pT) wa) :
    XE M O Γ s (.Subscript e (.Slice none none (some (.UnaryOp .USub (.Constant (.int 1) j1 p0) p1)) p2) pos) (fz pT) (fun k => wa fun x s1 => x.length ≤ sizeLine ∧ k x.reverse s1) := by
  intro HI C Q σ F H st hq hc
  refine ⟨tRevS (rdE M e) (rdE M (.UnaryOp .USub (.Constant (.int 1) j1 p0) p1)), fun i => pe_revS (rdE_ok (M := M) i (e := e)) (rdE_ok (M := M) i (e := .UnaryOp .USub (.Constant (.int 1) j1 p0) p1)), ?_⟩
  refine he HI _ _ σ F H st (fun x s1 v F1 H1 c1 e1 sv1 => ?_) hc
  obtain ⟨⟨ev, ok⟩, st1⟩ := sv1.fz
  refine xe_neg (M := M) (O := O) (Γ := Γ) (s := s1) (pos := p1) (xe_int (j := j1) (pos := p0)) HI (fun z s2 => z = -1 ∧ s2 = s1) _ σ F1 H1 st1 (fun z s2 u F2 H2 c2 e2 sv2 => ?_) ⟨rfl, rfl⟩
  obtain ⟨ez, es⟩ := c2
  subst ez es
  obtain ⟨rz, st2⟩ := sv2.fz
  exact ⟨-1, rz, rfl, x, ev, c1.1, hq _ s2 _ F2 H2 c1.2 (e1.trans e2) (st2.val ⟨rfl, fun c hc => ok c (List.mem_reverse.mp hc)⟩)⟩
end
end Sm

set_option Elab.async false
set_option linter.all false
set_option maxRecDepth 100000
set_option maxHeartbeats 4000000
namespace Sm
open PySem PySem.Spec PyProof.Rows L2
/-! ### is True, is False -/
theorem op_isB {X : Cx} : OpR X (compareOp .Is) (fun x y H Q => ∃ a b : Bool, x = .bl a ∧ y = .bl b ∧ Q (.bl (a == b)) H) := by
  intro pins s σ H x y v u Q I rx ry ⟨a, b, ex, ey, q⟩
  subst ex ey
  cases rx
  cases ry
  show wpAny _ _ (do return Value.bool (← isSame (.bool a) (.bool b))) _ _ _
  unfold isSame
  cases a <;> cases b <;> exact wpAny_bind (wpAny_pure (wpAny_pure ⟨.bl _, H, I, rfl, q⟩))
section
variable {P : Program} {w : World} {K : PySem.W.Frag} {mg : Str → Option Value} {base : Heap} {N : List Str} {sc : Scope} {fn : Str → Bool} {k : Nat}
variable {M : Fm P w K mg base N sc fn k}
variable {S : Type} {O : S → Res} {Γ : Asrt} {s : S}
theorem xc_isB {a b : Expr} {wa : (Bool → S → Prop) → Prop} {wb : S → (Bool → S → Prop) → Prop} (ha : XE M O Γ s a (fz pB) wa) (hb : ∀ s', XE M O Γ s' b (fz pB) (wb s')) : XC M O Γ s .Is a b (fun k => wa fun x s1 => wb s1 fun y s2 => k (x == y) s2) :=
  xc_op (Wo := fun x y k => k (x == y)) (fun i => op_isB) (fun O HI Γ s σ F H x y u v C Q st rx ry hq hc => ⟨x, y, rx, ry, hq _ _ F H hc (Same.refl _) (st.val rfl)⟩) ha hb
end
end Sm

set_option Elab.async false
set_option linter.all false
set_option maxRecDepth 100000
set_option maxHeartbeats 4000000
namespace Fc
open Sm PySem
theorem rg_length (lo : Int) (n : Nat) : (rg lo n).length = n := by simp [rg]
theorem rg_mem {lo : Int} {n : Nat} {x : Int} : x ∈ rg lo n ↔ lo ≤ x ∧ x < lo + n := by
  unfold rg
  rw [List.mem_map]
  constructor
  · rintro ⟨i, h, rfl⟩
    have := List.mem_range.mp h
    omega
  · intro h
    exact ⟨(x - lo).toNat, List.mem_range.mpr (by omega), by omega⟩
theorem rg_add (lo : Int) (a b : Nat) : rg lo (a + b) = rg lo a ++ rg (lo + a) b := by
  unfold rg
  rw [List.range_add, List.map_append, List.map_map]
  congr 1
  refine List.map_congr_left fun i _ => ?_
  show lo + ((a + i : Nat) : Int) = lo + a + i
  omega
theorem rg_map_add (lo d : Int) (n : Nat) : rg (lo + d) n = (rg lo n).map (· + d) := by
  unfold rg
  rw [List.map_map]
  refine List.map_congr_left fun i _ => ?_
  show lo + d + (i : Int) = lo + i + d
  omega
theorem rg_succ (lo : Int) (n : Nat) : rg lo (n + 1) = lo :: rg (lo + 1) n := by
  rw [Nat.add_comm, rg_add]
  show (lo + 0) :: _ = _
  rw [Int.add_zero]
  rfl
theorem joinT_nil : ∀ ys : List Text, joinT [] ys = ys.flatten
  | [] => rfl
  | [y] => by show y = _; simp
  | y :: z :: r => by
    have h := joinT_nil (z :: r)
    show y ++ ([] ++ joinT [] (z :: r)) = _
    rw [h]; rfl
/-- the signs of a face -/
def isF (f : Text) : Prop := ∀ c ∈ f, c = 48 ∨ c = 49 ∨ c = 42
/-- the corners of a face, in order -/
def crn : Text → List Text
  | [] => [[]]
  | s :: f => (if s = 48 ∨ s = 42 then (crn f).map (48 :: ·) else []) ++ (if s = 49 ∨ s = 42 then (crn f).map (49 :: ·) else [])
/-- all corners of so many bits, in order -/
def allC : Nat → List Text
  | 0 => [[]]
  | n + 1 => (allC n).map (48 :: ·) ++ (allC n).map (49 :: ·)
/-- whether a corner has the face's signs -/
def mt : Text → Text → Bool
  | s :: f, b :: c => (s == 42 || s == b) && mt f c
  | _, _ => true
theorem crn_filter : ∀ f : Text, crn f = (allC f.length).filter (mt f)
  | [] => rfl
  | s :: f => by
    show _ = List.filter _ ((allC f.length).map (48 :: ·) ++ (allC f.length).map (49 :: ·))
    rw [List.filter_append, List.filter_map, List.filter_map]
    unfold crn
    rw [crn_filter f]
    congr 1
    · by_cases h : s = 48 ∨ s = 42
      · rw [if_pos h]; congr 1
        refine List.filter_congr fun c _ => ?_
        show _ = ((s == 42 || s == 48) && mt f c)
        rcases h with rfl | rfl <;> simp
      · rw [if_neg h]
        symm
        rw [List.map_eq_nil_iff, List.filter_eq_nil_iff]
        intro c _
        show ¬ ((s == 42 || s == 48) && mt f c) = true
        simp only [not_or] at h
        simp [h.1, h.2]
    · by_cases h : s = 49 ∨ s = 42
      · rw [if_pos h]; congr 1
        refine List.filter_congr fun c _ => ?_
        show _ = ((s == 42 || s == 49) && mt f c)
        rcases h with rfl | rfl <;> simp
      · rw [if_neg h]
        symm
        rw [List.map_eq_nil_iff, List.filter_eq_nil_iff]
        intro c _
        show ¬ ((s == 42 || s == 49) && mt f c) = true
        simp only [not_or] at h
        simp [h.1, h.2]
theorem allC_len : ∀ {n : Nat} {c : Text}, c ∈ allC n → c.length = n
  | 0, c, h => by rw [List.mem_singleton.mp h]; rfl
  | n + 1, c, h => by
    rcases List.mem_append.mp h with h | h <;>
    · obtain ⟨d, hd, rfl⟩ := List.mem_map.mp h
      rw [List.length_cons, allC_len hd]
theorem allC_length : ∀ n : Nat, (allC n).length = 2 ^ n
  | 0 => rfl
  | n + 1 => by
    show (List.map _ _ ++ List.map _ _).length = _
    rw [List.length_append, List.length_map, List.length_map, allC_length n, Nat.pow_succ]; omega
theorem crn_len {f c : Text} (h : c ∈ crn f) : c.length = f.length := by
  rw [crn_filter] at h
  exact allC_len (List.mem_filter.mp h).1
theorem crn_count : ∀ {f : Text}, isF f → (crn f).length = 2 ^ f.count 42
  | [], _ => rfl
  | s :: f, h => by
    have ih := crn_count (f := f) fun c hc => h c (List.mem_cons_of_mem _ hc)
    rcases h s List.mem_cons_self with rfl | rfl | rfl
    · simp [crn, ih]
    · simp [crn, ih]
    · simp [crn, ih, Nat.pow_succ]; omega
theorem crn_le (f : Text) : (crn f).length ≤ 2 ^ f.length := by
  rw [crn_filter, ← allC_length]
  exact List.length_filter_le _ _
/-- a number's sign at so many bits below its last -/
def bt (x : Int) : Nat := if x % 2 = 0 then 48 else 49
/-- a number as a corner of so many bits -/
def cN : Nat → Int → Text
  | 0, _ => []
  | b + 1, x => bt (x / 2 ^ b) :: cN b x
theorem cN_len : ∀ (b : Nat) (x : Int), (cN b x).length = b
  | 0, _ => rfl
  | b + 1, x => congrArg (· + 1) (cN_len b x)
theorem cN_add : ∀ (b : Nat) (x : Int) (m : Int), cN b (x + m * 2 ^ b) = cN b x
  | 0, _, _ => rfl
  | b + 1, x, m => by
    have e : x + m * 2 ^ (b + 1) = x + (2 * m) * 2 ^ b := by rw [Int.pow_succ, Int.mul_comm (2 ^ b) 2, ← Int.mul_assoc, Int.mul_comm m 2]
    show bt _ :: _ = bt _ :: _
    rw [e, cN_add b x (2 * m), Int.add_mul_ediv_right _ _ (Int.pow_ne_zero (by decide))]
    congr 1
    unfold bt
    have : (x / 2 ^ b + 2 * m) % 2 = x / 2 ^ b % 2 := by omega
    rw [this]
theorem two_pow (b : Nat) : ((2 ^ b : Nat) : Int) = (2 : Int) ^ b := by simp
theorem allC_rg : ∀ b : Nat, (rg 0 (2 ^ b)).map (cN b) = allC b
  | 0 => rfl
  | b + 1 => by
    rw [Nat.pow_succ, Nat.mul_two, rg_add, Int.zero_add, List.map_append]
    have e : rg ((2 ^ b : Nat) : Int) (2 ^ b) = (rg 0 (2 ^ b)).map (· + ((2 ^ b : Nat) : Int)) := by rw [← rg_map_add, Int.zero_add]
    rw [e, List.map_map]
    show _ = (allC b).map (48 :: ·) ++ (allC b).map (49 :: ·)
    rw [← allC_rg b, List.map_map, List.map_map]
    have hp : (0 : Int) < 2 ^ b := Int.pow_pos (by decide)
    congr 1
    · refine List.map_congr_left fun x hx => ?_
      have hx := rg_mem.mp hx
      rw [two_pow] at hx
      show bt (x / 2 ^ b) :: cN b x = 48 :: cN b x
      rw [Int.ediv_eq_zero_of_lt hx.1 (by omega)]; rfl
    · refine List.map_congr_left fun x hx => ?_
      have hx := rg_mem.mp hx
      rw [two_pow] at hx
      show bt ((x + ((2 ^ b : Nat) : Int)) / 2 ^ b) :: cN b (x + ((2 ^ b : Nat) : Int)) = 49 :: cN b x
      rw [two_pow]
      have h := cN_add b x 1
      rw [Int.one_mul] at h
      have h2 := Int.add_mul_ediv_right x 1 (c := 2 ^ b) (by omega)
      rw [Int.one_mul] at h2
      rw [h, h2, Int.ediv_eq_zero_of_lt hx.1 (by omega)]; rfl
/-- the corners of a face, one sign behind another -/
def stepC (found : List Text) (s : Nat) : List Text := found.flatMap fun c => (if s = 48 ∨ s = 42 then [c ++ [48]] else []) ++ (if s = 49 ∨ s = 42 then [c ++ [49]] else [])
theorem foldl_stepC : ∀ (f : Text) (found : List Text), f.foldl stepC found = found.flatMap fun c => (crn f).map (c ++ ·)
  | [], found => by
    show found = _
    simp [crn]
  | s :: f, found => by
    rw [List.foldl_cons, foldl_stepC f]
    unfold stepC
    rw [List.flatMap_assoc]
    congr 1
    funext c
    by_cases h1 : s = 48 ∨ s = 42 <;> by_cases h2 : s = 49 ∨ s = 42 <;> simp [crn, h1, h2, List.map_map, Function.comp_def]
theorem foldl_crn (f : Text) : f.foldl stepC [[]] = crn f := by
  rw [foldl_stepC]
  simp
end Fc

set_option Elab.async false
set_option linter.all false
set_option maxRecDepth 100000
set_option maxHeartbeats 4000000
/-! sets as texts: tables, numbers of corners, sublists of all corners -/
namespace Tb
open Sm PySem Fc L2
variable {α : Type}
def tab (n : Nat) (f : Int → α) : List α := (rg 0 n).map f
theorem tab_length (n : Nat) (f : Int → α) : (tab n f).length = n := by rw [tab, List.length_map, rg_length]
theorem rg_get {n j : Nat} (h : j < n) : (rg 0 n)[j]? = some (j : Int) := by
  unfold rg
  rw [List.getElem?_map, List.getElem?_range h]
  show some ((0 : Int) + j) = _
  rw [Int.zero_add]
theorem tab_get {n : Nat} {f : Int → α} {j : Nat} (h : j < n) : (tab n f)[j]? = some (f j) := by
  unfold tab
  rw [List.getElem?_map, rg_get h]; rfl
theorem tab_ix {n : Nat} {f : Int → α} {p : Int} (h0 : 0 ≤ p) (h1 : p < n) : ixN (tab n f).length p = some p.toNat := ixN_of h0 (by rw [tab_length]; exact h1)
theorem tab_set {n : Nat} {f : Int → α} {p : Int} {y : α} (h0 : 0 ≤ p) : (tab n f).set p.toNat y = tab n fun q => if q = p then y else f q := by
  obtain ⟨j, rfl⟩ := Int.eq_ofNat_of_zero_le h0
  rw [Int.toNat_natCast]
  refine List.ext_getElem? fun i => ?_
  by_cases hi : i < n
  · rw [tab_get hi]
    by_cases e : j = i
    · subst e; rw [List.getElem?_set_self (by rw [tab_length]; exact hi), if_pos rfl]
    · rw [List.getElem?_set_ne e, tab_get hi, if_neg (by omega)]
  · rw [List.getElem?_eq_none (by rw [List.length_set, tab_length]; omega), List.getElem?_eq_none (by rw [tab_length]; omega)]
theorem tab_congr {n : Nat} {f g : Int → α} (h : ∀ p : Int, 0 ≤ p → p < n → f p = g p) : tab n f = tab n g :=
  List.map_congr_left fun p hp => h p (rg_mem.mp hp).1 (by have := (rg_mem.mp hp).2; omega)
theorem tab_const (n : Nat) (a : α) : (List.replicate n [a]).flatten = tab n fun _ => a := by
  refine List.ext_getElem? fun i => ?_
  have e : (List.replicate n [a]).flatten = List.replicate n a := by
    induction n with
    | zero => rfl
    | succ n ih => rw [List.replicate_succ, List.flatten_cons, ih, List.replicate_succ]; rfl
  rw [e, List.getElem?_replicate]
  by_cases hi : i < n
  · rw [if_pos hi, tab_get hi]
  · rw [if_neg hi, List.getElem?_eq_none (by rw [tab_length]; omega)]
/-- a corner's number -/
def nv (c : Int) (t : Text) : Int := t.foldl (fun c s => 2 * c + (if s = 49 then 1 else 0)) c
theorem nv_cN (x : Int) : ∀ m : Nat, nv (x / 2 ^ m) (cN m x) = x
  | 0 => by show x / 2 ^ 0 = x; rw [Int.pow_zero, Int.ediv_one]
  | m + 1 => by
    have ih := nv_cN x m
    show nv (2 * (x / 2 ^ (m + 1)) + (if bt (x / 2 ^ m) = 49 then 1 else 0)) (cN m x) = x
    have e : 2 * (x / 2 ^ (m + 1)) + (if bt (x / 2 ^ m) = 49 then 1 else 0) = x / 2 ^ m := by
      have e0 : x / 2 ^ (m + 1) = x / 2 ^ m / 2 := by rw [Int.pow_succ, Int.ediv_ediv_of_nonneg (Int.le_of_lt (Int.pow_pos (by decide)))]
      rw [e0]
      generalize x / 2 ^ m = a
      unfold bt
      by_cases g : a % 2 = 0
      · rw [if_pos g]; show 2 * (a / 2) + 0 = a; omega
      · rw [if_neg g]; show 2 * (a / 2) + 1 = a; omega
    rw [e]; exact ih
theorem nv_of {b : Nat} {x : Int} (h0 : 0 ≤ x) (h1 : x < 2 ^ b) : nv 0 (cN b x) = x := by
  have h := nv_cN x b
  rw [Int.ediv_eq_zero_of_lt h0 h1] at h
  exact h
theorem cN_inj {b : Nat} {x y : Int} (h0 : 0 ≤ x) (h1 : x < 2 ^ b) (g0 : 0 ≤ y) (g1 : y < 2 ^ b) (h : cN b x = cN b y) : x = y := by
  rw [← nv_of h0 h1, h, nv_of g0 g1]
theorem allC_nodup : ∀ b : Nat, (allC b).Nodup
  | 0 => by show [([] : Text)].Nodup; simp
  | b + 1 => by
    show (List.map (48 :: ·) (allC b) ++ List.map (49 :: ·) (allC b)).Nodup
    have ih := allC_nodup b
    refine List.nodup_append.mpr ⟨List.pairwise_map.mpr (ih.imp fun h e => h (List.cons.inj e).2), List.pairwise_map.mpr (ih.imp fun h e => h (List.cons.inj e).2), fun x hx y hy e => ?_⟩
    obtain ⟨u, _, rfl⟩ := List.mem_map.mp hx
    obtain ⟨v, _, rfl⟩ := List.mem_map.mp hy
    exact absurd (List.cons.inj e).1 (by decide)
theorem allC_mem {b : Nat} {c : Text} (h : c ∈ allC b) : ∃ x : Int, 0 ≤ x ∧ x < 2 ^ b ∧ c = cN b x := by
  rw [← allC_rg] at h
  obtain ⟨x, hx, rfl⟩ := List.mem_map.mp h
  have := rg_mem.mp hx
  rw [two_pow] at this
  exact ⟨x, this.1, by omega, rfl⟩
theorem sub_filter [DecidableEq α] {l z : List α} (h : z.Sublist l) : l.Nodup → l.filter (fun c => memB c z) = z := by
  induction h with
  | slnil => intro _; rfl
  | cons a h ih =>
    intro hn
    obtain ⟨h1, h2⟩ := List.nodup_cons.mp hn
    rw [List.filter_cons, if_neg (by rw [memB_iff]; exact fun q => h1 (h.subset q)), ih h2]
  | cons_cons a h ih =>
    intro hn
    obtain ⟨h1, h2⟩ := List.nodup_cons.mp hn
    rw [List.filter_cons, if_pos (by rw [memB_iff]; exact List.mem_cons_self)]
    congr 1
    refine Eq.trans (List.filter_congr fun c hc => ?_) (ih h2)
    rw [Bool.eq_iff_iff, memB_iff, memB_iff]
    constructor
    · intro q
      rcases List.mem_cons.mp q with rfl | q
      · exact absurd hc h1
      · exact q
    · exact fun q => List.mem_cons_of_mem _ q
/-- a set as a text -/
def shw (b : Nat) (z : List Text) : Text := (allC b).map fun c => if memB c z = true then 49 else 48
theorem shw_length (b : Nat) (z : List Text) : (shw b z).length = 2 ^ b := by rw [shw, List.length_map, allC_length]
theorem flat_map_one (f : α → Nat) : ∀ l : List α, (l.map fun c => [f c]).flatten = l.map f
  | [] => rfl
  | a :: l => by rw [List.map_cons, List.flatten_cons, flat_map_one f l]; rfl
theorem crn_star : ∀ b : Nat, crn (List.replicate b 42) = allC b
  | 0 => rfl
  | b + 1 => by
    rw [List.replicate_succ]
    show (if (42 : Nat) = 48 ∨ (42 : Nat) = 42 then _ else _) ++ (if (42 : Nat) = 49 ∨ (42 : Nat) = 42 then _ else _) = _
    rw [if_pos (.inr rfl), if_pos (.inr rfl), crn_star b]; rfl
theorem zip_read (z : List Text) : ∀ l : List Text, (l.zip (sgs (l.map fun c => if memB c z = true then 49 else 48))).filterMap (fun p => if (eqB p.2 [49]) = true then some p.1 else none) = l.filter fun c => memB c z
  | [] => rfl
  | c :: l => by
    have ih := zip_read z l
    show List.filterMap _ ((c, [if memB c z = true then 49 else 48]) :: (l.zip (sgs (l.map fun c => if memB c z = true then 49 else 48)))) = _
    rw [List.filterMap_cons, List.filter_cons, ih]
    by_cases g : memB c z = true
    · simp only [g, if_true]; rfl
    · simp only [g]; rfl
end Tb

set_option Elab.async false
set_option linter.all false
set_option maxRecDepth 100000
set_option maxHeartbeats 4000000
/-! orders of texts, numbers, pairs; faces in order -/
namespace Od
open Sm PySem Fc Tb
/-! ### sorting -/
theorem sort_eq {α : Type} {le : α → α → Bool} (tr : ∀ a b c, le a b = true → le b c = true → le a c = true) (tot : ∀ a b, (le a b || le b a) = true) {xs ys : List α}
    (an : ∀ a b, a ∈ xs → b ∈ ys → le a b = true → le b a = true → a = b) (hy : ys.Pairwise fun a b => le a b = true) : xs.mergeSort le = ys ↔ xs.Perm ys := by
  constructor
  · rintro rfl
    exact (List.mergeSort_perm _ _).symm
  · intro h
    exact List.Perm.eq_of_pairwise (fun a b ha hb => an a b (List.mem_mergeSort.mp ha) hb) (List.pairwise_mergeSort tr tot xs) hy ((List.mergeSort_perm _ _).trans h)
/-! ### the orders of data in plain words -/
theorem leT : PySem.W.dataLe false eT = fun a b => decide (a ≤ b) := (PySem.W.dataLe_str (fun x : Text => (⟨x.toArray⟩ : Str))).trans (by funext a b; simp)
theorem leI : PySem.W.dataLe false eI = fun a b => decide (a ≤ b) := PySem.W.dataLe_int (fun x : Int => x)
theorem ltI (x y : Int) : ltE eI x y = decide (x < y) := PySem.W.dataLt_int x y
theorem ltT (x y : Text) : ltE eT x y = decide (x < y) := (PySem.W.dataLt_str ⟨x.toArray⟩ ⟨y.toArray⟩).trans (by simp)
theorem ltLI (x y : List Int) : ltE (eL eI) x y = decide (x < y) := by
  show PySem.W.dataLt (.list (x.map .int)) (.list (y.map .int)) = _
  rw [PySem.W.dataLt_list]
  exact PySem.W.dataLt_ints x y
theorem leLI : PySem.W.dataLe false (eL eI) = fun a b => decide (a ≤ b) := PySem.W.dataLe_rows (fun x : List Int => x)
theorem lePT {α : Type} [DecidableEq α] {e : α → PyData} {f : Text → PyData} (hf : f = eT) (al : ∀ a b, PySem.W.alike (e a) (e b) = true) (lt : α → α → Bool) (hlt : ∀ a b, PySem.W.dataLt (e a) (e b) = lt a b) (inj : ∀ a b, PyData.eqv (e a) (e b) = true ↔ a = b) (p q : α × Text) :
    PySem.W.dataLe false (eP e f) p q = if p.1 = q.1 then decide (p.2 ≤ q.2) else !lt q.1 p.1 := by
  subst hf
  show (!PySem.W.dataLt (.tuple [e q.1, eT q.2]) (.tuple [e p.1, eT p.2])) = _
  rw [PySem.W.dataLt_pair (al _ _) (by simp only [eT, PySem.W.alike])]
  by_cases h : p.1 = q.1
  · rw [if_pos ((inj _ _).mpr h.symm), if_pos h]
    by_cases g : PyData.eqv (eT q.2) (eT p.2) = true
    · rw [if_pos g]
      have : q.2 = p.2 := by
        simp only [eT, PyData.eqv, beq_iff_eq] at g
        simpa using g
      rw [this]; simp
    · rw [if_neg g]
      show (!ltE eT q.2 p.2) = _
      rw [ltT]
      exact PySem.W.not_lt_str p.2 q.2
  · rw [if_neg (fun g => h ((inj _ _).mp g).symm), if_neg h, hlt]
theorem leTT (p q : Text × Text) : PySem.W.dataLe false (eP eT eT) p q = if p.1 = q.1 then decide (p.2 ≤ q.2) else decide (p.1 ≤ q.1) := by
  rw [lePT rfl (fun a b => by simp only [eT, PySem.W.alike]) (fun a b => decide (a < b)) (fun a b => ltT a b) (fun a b => by simp only [eT, PyData.eqv, beq_iff_eq]; simp)]
  congr 1
  exact PySem.W.not_lt_str p.1 q.1
theorem alLI (a b : List Int) : PySem.W.alike (eL eI a) (eL eI b) = true := by
  show PySem.W.alike (.list (a.map .int)) (.list (b.map .int)) = true
  rw [PySem.W.alike]
  induction a generalizing b with
  | nil => rw [List.map_nil, PySem.W.alikeAll]
  | cons x a ih =>
    cases b with
    | nil => rw [List.map_nil, List.map_cons, PySem.W.alikeAll]
    | cons y b => rw [List.map_cons, List.map_cons, PySem.W.alikeAll, ih b]; simp [PySem.W.alike]
theorem inLI (a b : List Int) : PyData.eqv (eL eI a) (eL eI b) = true ↔ a = b := by
  show PyData.eqv (.list (a.map .int)) (.list (b.map .int)) = true ↔ _
  have h := eqAll (d := PyData.int) (fun x y => by simp only [PyData.eqv]; exact Bool.beq_eq_decide_eq _ _) a b
  simp only [PyData.eqv]
  rw [h]; simp
theorem leLT (p q : List Int × Text) : PySem.W.dataLe false (eP (eL eI) eT) p q = if p.1 = q.1 then decide (p.2 ≤ q.2) else decide (p.1 ≤ q.1) := by
  rw [lePT rfl alLI (fun a b => decide (a < b)) (fun a b => ltLI a b) inLI]
  congr 1
  have h := congrFun (congrFun leLI p.1) q.1
  rw [← h, PySem.W.dataLe_eq]
  show _ = !ltE (eL eI) q.1 p.1
  rw [ltLI]
/-! ### faces in order: 0, 1, a star -/
def dg (c : Nat) : Nat := if c = 42 then 50 else c
def od (f : Text) : Text := f.map dg
theorem od_len (f : Text) : (od f).length = f.length := List.length_map ..
theorem od_inj : ∀ {f g : Text}, isF f → isF g → od f = od g → f = g
  | [], [], _, _, _ => rfl
  | [], _ :: _, _, _, e => by cases e
  | _ :: _, [], _, _, e => by cases e
  | a :: f, b :: g, hf, hg, e => by
    obtain ⟨e1, e2⟩ := List.cons.inj e
    rw [od_inj (fun c hc => hf c (List.mem_cons_of_mem _ hc)) (fun c hc => hg c (List.mem_cons_of_mem _ hc)) e2]
    have e1 : dg a = dg b := e1
    congr 1
    rcases hf a List.mem_cons_self with rfl | rfl | rfl <;> rcases hg b List.mem_cons_self with rfl | rfl | rfl <;> first | rfl | exact absurd e1 (by decide)
def fle (f g : Text) : Bool := decide (od f ≤ od g)
abbrev flt (f g : Text) : Prop := od f < od g
theorem fle_tr (a b c : Text) (h : fle a b = true) (g : fle b c = true) : fle a c = true := by
  unfold fle at h g ⊢
  exact decide_eq_true (List.le_trans (of_decide_eq_true h) (of_decide_eq_true g))
theorem fle_tot (a b : Text) : (fle a b || fle b a) = true := by
  unfold fle
  rcases List.le_total (od a) (od b) with h | h <;> simp [h]
theorem fle_an {a b : Text} (ha : isF a) (hb : isF b) (h : fle a b = true) (g : fle b a = true) : a = b :=
  od_inj ha hb (List.le_antisymm (of_decide_eq_true h) (of_decide_eq_true g))
def srtF (fs : List Text) : List Text := fs.mergeSort fle
theorem srtF_perm (fs : List Text) : (srtF fs).Perm fs := List.mergeSort_perm _ _
theorem srtF_len (fs : List Text) : (srtF fs).length = fs.length := (srtF_perm fs).length_eq
theorem srtF_sorted (fs : List Text) : (srtF fs).Pairwise fun a b => fle a b = true := List.pairwise_mergeSort fle_tr fle_tot fs
theorem srtF_iff {fs gs : List Text} (h : ∀ f ∈ fs, isF f) (hg : gs.Pairwise fun a b => fle a b = true) : srtF fs = gs ↔ fs.Perm gs := by
  constructor
  · rintro rfl; exact (srtF_perm fs).symm
  · intro p
    exact (sort_eq fle_tr fle_tot (fun a b ha hb => fle_an (h a ha) (h b (p.mem_iff.mpr hb))) hg).mpr p
theorem srtF_self {fs : List Text} : srtF fs = fs ↔ fs.Pairwise fun a b => fle a b = true :=
  ⟨fun e => by rw [← e]; exact srtF_sorted fs, fun h => List.mergeSort_of_pairwise h⟩
/-- pairs sorted by their first, of one kind of row -/
theorem srtF_pairs {α : Type} {le : α × Text → α × Text → Bool} {key : Text → α} {fs : List Text} (h : ∀ f ∈ fs, ∀ g ∈ fs, le (key f, f) (key g, g) = fle f g) :
    ((fs.map fun f => (key f, f)).mergeSort le).map (·.2) = srtF fs := by
  have e := List.map_mergeSort (r := le) (s := fle) (f := fun p : α × Text => p.2) (l := fs.map fun f => (key f, f)) (fun a ha b hb => by
    obtain ⟨f, hf, rfl⟩ := List.mem_map.mp ha
    obtain ⟨g, hg, rfl⟩ := List.mem_map.mp hb
    exact h f hf g hg)
  rw [e, List.map_map]
  show (fs.map fun f => f).mergeSort fle = _
  rw [List.map_id']; rfl
/-! ### corners in order: as texts, as numbers -/
theorem od_corner : ∀ {c : Text}, (∀ d ∈ c, d = 48 ∨ d = 49) → od c = c
  | [], _ => rfl
  | a :: c, h => by
    show dg a :: od c = _
    rw [od_corner fun d hd => h d (List.mem_cons_of_mem _ hd)]
    rcases h a List.mem_cons_self with rfl | rfl <;> rfl
theorem allC_signs : ∀ {b : Nat} {c : Text}, c ∈ allC b → ∀ d ∈ c, d = 48 ∨ d = 49
  | 0, c, h, d, hd => by rw [List.mem_singleton.mp h] at hd; cases hd
  | b + 1, c, h, d, hd => by
    rcases List.mem_append.mp h with h | h <;>
    · obtain ⟨e, he, rfl⟩ := List.mem_map.mp h
      rcases List.mem_cons.mp hd with rfl | hd
      · simp
      · exact allC_signs he d hd
theorem allC_sorted : ∀ b : Nat, (allC b).Pairwise (· < ·)
  | 0 => by show [([] : Text)].Pairwise _; simp
  | b + 1 => by
    have ih := allC_sorted b
    refine List.pairwise_append.mpr ⟨List.pairwise_map.mpr (ih.imp fun h => List.cons_lt_cons_iff.mpr (.inr ⟨rfl, h⟩)), List.pairwise_map.mpr (ih.imp fun h => List.cons_lt_cons_iff.mpr (.inr ⟨rfl, h⟩)), fun x hx y hy => ?_⟩
    obtain ⟨u, _, rfl⟩ := List.mem_map.mp hx
    obtain ⟨v, _, rfl⟩ := List.mem_map.mp hy
    exact List.cons_lt_cons_iff.mpr (.inl (by decide))
theorem sub_sorted {b : Nat} {z : List Text} (h : z.Sublist (allC b)) : z.Pairwise (· < ·) := (allC_sorted b).sublist h
theorem sub_le {b : Nat} {z : List Text} (h : z.Sublist (allC b)) : z.Pairwise fun a b => decide (a ≤ b) = true := (sub_sorted h).imp fun q => decide_eq_true (List.le_of_lt q)
theorem sub_nodup {b : Nat} {z : List Text} (h : z.Sublist (allC b)) : z.Nodup := (allC_nodup b).sublist h
/-- sorted corners are a set just where they are its corners -/
theorem srt_corners {b : Nat} {z xs : List Text} (h : z.Sublist (allC b)) : srtE eT xs = z ↔ xs.Perm z := by
  show xs.mergeSort (PySem.W.dataLe false eT) = z ↔ _
  rw [leT]
  exact sort_eq (le := fun a b : Text => decide (a ≤ b)) (fun a b c h g => decide_eq_true (List.le_trans (of_decide_eq_true h) (of_decide_eq_true g))) (fun a b => by rcases List.le_total a b with h | h <;> simp [h]) (fun a b (_ : a ∈ xs) (_ : b ∈ z) h g => List.le_antisymm (of_decide_eq_true h) (of_decide_eq_true g)) (sub_le h)
theorem srt_ints {xs ys : List Int} (h : ys.Pairwise (· < ·)) : srtE eI xs = ys ↔ xs.Perm ys := by
  show xs.mergeSort (PySem.W.dataLe false eI) = ys ↔ _
  rw [leI]
  exact sort_eq (le := fun a b : Int => decide (a ≤ b)) (fun a b c h g => decide_eq_true (Int.le_trans (of_decide_eq_true h) (of_decide_eq_true g))) (fun a b => by rcases Int.le_total a b with h | h <;> simp [h]) (fun a b _ _ h g => Int.le_antisymm (of_decide_eq_true h) (of_decide_eq_true g)) (h.imp fun q => decide_eq_true (Int.le_of_lt q))
end Od

set_option Elab.async false
set_option linter.all false
set_option maxRecDepth 100000
set_option maxHeartbeats 4000000
/-! partings: what is one, faces made one -/
namespace Pt
open Sm PySem Fc Tb Od
theorem isF_tail {a : Nat} {f : Text} (h : isF (a :: f)) : isF f := fun c hc => h c (List.mem_cons_of_mem _ hc)
theorem isF_append {f g : Text} (h : isF f) (q : isF g) : isF (f ++ g) := fun c hc => (List.mem_append.mp hc).elim (h c) (q c)
theorem crn_ne : ∀ {f : Text}, isF f → crn f ≠ []
  | [], _ => by simp [crn]
  | a :: f, h => by
    have ih := crn_ne (isF_tail h)
    rcases h a List.mem_cons_self with rfl | rfl | rfl <;> simp [crn, ih]
/-! ### cuts -/
theorem cut_take {α : Type} (f : List α) (u : Nat) : cutG f none (some (u : Int)) = f.take u := by
  unfold cutG
  rw [HT.sIx_none, HT.sIx_nat, List.drop_zero, Nat.sub_zero]
  by_cases h : u ≤ f.length
  · rw [Nat.min_eq_left h]
  · rw [Nat.min_eq_right (by omega), List.take_length, List.take_of_length_le (by omega)]
theorem cut_drop {α : Type} (f : List α) (u : Nat) : cutG f (some (u : Int)) none = f.drop u := by
  unfold cutG
  rw [HT.sIx_none, HT.sIx_nat]
  by_cases h : u ≤ f.length
  · rw [Nat.min_eq_left h]
    exact List.take_of_length_le (by rw [List.length_drop]; exact Nat.le_refl _)
  · rw [Nat.min_eq_right (by omega), Nat.sub_self, List.take_zero, List.drop_eq_nil_of_le (by omega)]
theorem cut_drop1 {α : Type} (f : List α) (u : Nat) : cutG f (some ((u : Int) + 1)) none = f.drop (u + 1) := cut_drop f (u + 1)
theorem cut_mid {α : Type} (f : List α) (u v : Nat) : cutG f (some (u : Int)) (some (v : Int)) = (f.take v).drop u := by
  unfold cutG
  rw [HT.sIx_nat, HT.sIx_nat, List.drop_take]
  by_cases h : u ≤ f.length
  · rw [Nat.min_eq_left h]
    by_cases g : v ≤ f.length
    · rw [Nat.min_eq_left g]
    · rw [Nat.min_eq_right (by omega), List.take_of_length_le (by rw [List.length_drop]; exact Nat.le_refl _), List.take_of_length_le (by rw [List.length_drop]; omega)]
  · rw [Nat.min_eq_right (Nat.le_of_not_le h), List.drop_eq_nil_of_le (Nat.le_refl _), List.drop_eq_nil_of_le (Nat.le_of_not_le h)]; simp
theorem cut_sub {α : Type} (f : List α) (lo hi : Option Int) : (cutG f lo hi).Sublist f := (List.take_sublist _ _).trans (List.drop_sublist _ _)
theorem cut_len {α : Type} (f : List α) (lo hi : Option Int) : (cutG f lo hi).length ≤ f.length := (cut_sub f lo hi).length_le
theorem cut_mem {α : Type} {f : List α} {lo hi : Option Int} {x : α} (h : x ∈ cutG f lo hi) : x ∈ f := (cut_sub f lo hi).subset h
/-! ### a parting -/
def Faces (b : Nat) (fs : List Text) : Prop := ∀ f ∈ fs, f.length = b ∧ isF f
structure Part (b : Nat) (z fs : List Text) : Prop where
  fc : Faces b fs
  up : fs.Pairwise flt
  cs : (fs.flatMap crn).Perm z
instance isFDec (f : Text) : Decidable (isF f) := by unfold isF; infer_instance
instance (b : Nat) (fs : List Text) : Decidable (Faces b fs) := by unfold Faces; infer_instance
instance (b : Nat) (z fs : List Text) : Decidable (Part b z fs) :=
  if h : Faces b fs ∧ fs.Pairwise flt ∧ (fs.flatMap crn).Perm z then .isTrue ⟨h.1, h.2.1, h.2.2⟩ else .isFalse fun q => h ⟨q.fc, q.up, q.cs⟩
theorem crn_nodup : ∀ f : Text, (crn f).Nodup := fun f => by
  rw [crn_filter]; exact (allC_nodup _).filter _
theorem faces_nodup : ∀ {fs : List Text}, (∀ f ∈ fs, isF f) → (fs.flatMap crn).Nodup → fs.Nodup
  | [], _, _ => List.nodup_nil
  | f :: fs, h, n => by
    rw [List.flatMap_cons, List.nodup_append] at n
    refine List.nodup_cons.mpr ⟨fun hm => ?_, faces_nodup (fun g hg => h g (List.mem_cons_of_mem _ hg)) n.2.1⟩
    obtain ⟨c, hc⟩ := List.exists_mem_of_ne_nil _ (crn_ne (h f List.mem_cons_self))
    exact n.2.2 c hc c (List.mem_flatMap.mpr ⟨f, hm, hc⟩) rfl
theorem strict_of {fs : List Text} (h : ∀ f ∈ fs, isF f) (n : fs.Nodup) (s : fs.Pairwise fun a b => fle a b = true) : fs.Pairwise flt := by
  refine List.Pairwise.imp_of_mem ?_ (s.and n)
  rintro a b ha hb ⟨l, ne⟩
  by_cases q : od a < od b
  · exact q
  · exact absurd (od_inj (h a ha) (h b hb) (List.le_antisymm (of_decide_eq_true l) (List.not_lt.mp q))) ne
theorem le_of_strict {fs : List Text} (s : fs.Pairwise flt) : fs.Pairwise fun a b => fle a b = true := s.imp fun q => decide_eq_true (List.le_of_lt q)
theorem Part.nodup {b : Nat} {z fs : List Text} (h : Part b z fs) (hz : z.Nodup) : fs.Nodup := faces_nodup (fun f hf => (h.fc f hf).2) (h.cs.nodup_iff.mpr hz)
/-- sorted, faces with just these corners are a parting -/
theorem Part.sorted {b : Nat} {z fs : List Text} (hz : z.Nodup) (h : Faces b fs) (c : (fs.flatMap crn).Perm z) : Part b z (srtF fs) := by
  have hm : ∀ f, f ∈ srtF fs ↔ f ∈ fs := fun f => (srtF_perm fs).mem_iff
  have hF : Faces b (srtF fs) := fun f hf => h f ((hm f).mp hf)
  have hc : ((srtF fs).flatMap crn).Perm z := ((srtF_perm fs).flatMap_right _).trans c
  exact ⟨hF, strict_of (fun f hf => (hF f hf).2) (faces_nodup (fun f hf => (hF f hf).2) (hc.nodup_iff.mpr hz)) (srtF_sorted fs), hc⟩
theorem part_looked {b : Nat} {z fs : List Text} (hz : z.Sublist (allC b)) (h : Faces b fs) : Part b z fs ↔ srtF fs = fs ∧ srtE eT (fs.flatMap crn) = z := by
  rw [srt_corners hz, srtF_self]
  constructor
  · intro p; exact ⟨le_of_strict p.up, p.cs⟩
  · rintro ⟨p1, p2⟩
    exact ⟨h, strict_of (fun f hf => (h f hf).2) (faces_nodup (fun f hf => (h f hf).2) (p2.nodup_iff.mpr (sub_nodup hz))) p1, p2⟩
/-! ### corners as numbers -/
theorem sub_nums {b : Nat} {z : List Text} (h : z.Sublist (allC b)) : (z.map (nv 0)).Pairwise (· < ·) := by
  have e : (allC b).map (nv 0) = rg 0 (2 ^ b) := by
    rw [← allC_rg, List.map_map]
    refine (List.map_congr_left fun x hx => ?_).trans (List.map_id _)
    have := rg_mem.mp hx
    rw [two_pow] at this
    exact nv_of this.1 (by omega)
  have h2 : (rg 0 (2 ^ b)).Pairwise (· < ·) := by
    unfold rg
    refine List.pairwise_map.mpr (List.pairwise_lt_range.imp fun q => ?_)
    omega
  rw [← e] at h2
  exact h2.sublist (h.map _)
theorem perm_nums {b : Nat} {xs ys : List Text} (hx : ∀ c ∈ xs, c ∈ allC b) (hy : ∀ c ∈ ys, c ∈ allC b) : (xs.map (nv 0)).Perm (ys.map (nv 0)) ↔ xs.Perm ys := by
  have key : ∀ {l : List Text}, (∀ c ∈ l, c ∈ allC b) → (l.map (nv 0)).map (cN b) = l := fun {l} hl => by
    rw [List.map_map]
    refine (List.map_congr_left fun c hc => ?_).trans (List.map_id _)
    obtain ⟨x, x0, x1, rfl⟩ := allC_mem (hl c hc)
    show cN b (nv 0 (cN b x)) = _
    rw [nv_of x0 x1]; rfl
  constructor
  · intro p
    have := p.map (cN b)
    rwa [key hx, key hy] at this
  · intro p; exact p.map _
/-- a face's corners as numbers, as the laws reckon them -/
def lstep (ns : List Int) (s : Nat) : List Int := (ns.map fun n => 2 * n + (if s = 49 then 1 else 0)) ++ (if s = 42 then ns.map (fun n => 2 * n + 1) else [])
def lnum (f : Text) : List Int := f.foldl lstep [0]
theorem flatMap_two {α β : Type} (p q : α → List β) : ∀ l : List α, (l.flatMap p ++ l.flatMap q).Perm (l.flatMap fun x => p x ++ q x)
  | [] => .refl _
  | x :: l => by
    rw [List.flatMap_cons, List.flatMap_cons, List.flatMap_cons, List.append_assoc, List.append_assoc]
    refine List.Perm.append_left _ ?_
    refine List.Perm.trans ?_ (List.Perm.append_left (q x) (flatMap_two p q l))
    rw [← List.append_assoc, ← List.append_assoc]
    exact List.perm_append_comm.append_right _
theorem lnum_perm : ∀ {f : Text} (ns : List Int), isF f → (f.foldl lstep ns).Perm (ns.flatMap fun n => (crn f).map (nv n))
  | [], ns, _ => by
    show ns.Perm _
    have : (ns.flatMap fun n => (crn []).map (nv n)) = ns := by
      show (ns.flatMap fun n => [n]) = ns
      simp
    rw [this]
  | s :: f, ns, h => by
    rw [List.foldl_cons]
    refine (lnum_perm _ (isF_tail h)).trans ?_
    rcases h s List.mem_cons_self with rfl | rfl | rfl
    · have e : lstep ns 48 = ns.map fun n => 2 * n + 0 := by simp [lstep]
      rw [e, List.flatMap_map]
      simp only [crn]
      simp [List.map_map, Function.comp_def, nv]
      exact .refl _
    · have e : lstep ns 49 = ns.map fun n => 2 * n + 1 := by simp [lstep]
      rw [e, List.flatMap_map]
      simp only [crn]
      simp [List.map_map, Function.comp_def, nv]
      exact .refl _
    · have e : lstep ns 42 = (ns.map fun n => 2 * n + 0) ++ ns.map fun n => 2 * n + 1 := by simp [lstep]
      rw [e, List.flatMap_append, List.flatMap_map, List.flatMap_map]
      have e2 : (ns.flatMap fun n => (crn (42 :: f)).map (nv n)) = ns.flatMap fun n => ((crn f).map (nv (2 * n + 0))) ++ ((crn f).map (nv (2 * n + 1))) := by
        simp only [crn]
        simp [List.map_map, Function.comp_def, nv]
        rfl
      rw [e2]
      exact flatMap_two ..
theorem lnum_crn {f : Text} (h : isF f) : (lnum f).Perm ((crn f).map (nv 0)) := by
  refine (lnum_perm [0] h).trans ?_
  rw [List.flatMap_cons]; simp
theorem corner_crn : ∀ {c : Text}, (∀ d ∈ c, d = 48 ∨ d = 49) → crn c = [c]
  | [], _ => rfl
  | a :: c, h => by
    have ih := corner_crn (c := c) fun d hd => h d (List.mem_cons_of_mem _ hd)
    rcases h a List.mem_cons_self with rfl | rfl <;> simp [crn, ih]
theorem corner_isF {c : Text} (h : ∀ d ∈ c, d = 48 ∨ d = 49) : isF c := fun d hd => (h d hd).elim .inl (fun q => .inr (.inl q))
theorem lnum_corner {c : Text} (h : ∀ d ∈ c, d = 48 ∨ d = 49) : lnum c = [nv 0 c] := by
  have p := lnum_crn (corner_isF h)
  rw [corner_crn h] at p
  exact List.perm_singleton.mp p
theorem crn_allC {f c : Text} (h : c ∈ crn f) : c ∈ allC f.length := by
  rw [crn_filter] at h; exact (List.mem_filter.mp h).1
theorem law_looked {b : Nat} {z fs : List Text} (hz : z.Sublist (allC b)) (h : Faces b fs) : srtE eI (fs.flatMap lnum) = z.flatMap lnum ↔ (fs.flatMap crn).Perm z := by
  have e : z.flatMap lnum = z.map (nv 0) := by
    have : ∀ l : List Text, (∀ c ∈ l, c ∈ allC b) → l.flatMap lnum = l.map (nv 0) := fun l => by
      induction l with
      | nil => intro _; rfl
      | cons c l ih =>
        intro hl
        rw [List.flatMap_cons, lnum_corner (allC_signs (hl c List.mem_cons_self)), ih fun d hd => hl d (List.mem_cons_of_mem _ hd)]; rfl
    exact this z fun c hc => hz.subset hc
  rw [e, srt_ints (sub_nums hz)]
  have p : (fs.flatMap lnum).Perm ((fs.flatMap crn).map (nv 0)) := by
    clear e
    induction fs with
    | nil => exact .refl _
    | cons f fs ih =>
      rw [List.flatMap_cons, List.flatMap_cons, List.map_append]
      exact (lnum_crn (h f List.mem_cons_self).2).append (ih fun g hg => h g (List.mem_cons_of_mem _ hg))
  rw [← perm_nums (b := b) (xs := fs.flatMap crn) (ys := z) (fun c hc => ?_) (fun c hc => hz.subset hc)]
  · exact ⟨fun q => p.symm.trans q, fun q => p.trans q⟩
  · obtain ⟨f, hf, hc⟩ := List.mem_flatMap.mp hc
    rw [← (h f hf).1]; exact crn_allC hc
/-! ### rising -/
theorem flt_tr {a b c : Text} (h : flt a b) (g : flt b c) : flt a c := List.lt_trans h g
theorem rising : ∀ {fs : List Text}, (∀ k, k + 1 < fs.length → ∀ f g, fs[k]? = some f → fs[k + 1]? = some g → flt f g) → fs.Pairwise flt
  | [], _ => List.Pairwise.nil
  | [f], _ => by simp
  | f :: g :: fs, h => by
    have ih := rising (fs := g :: fs) fun k hk x y hx hy => h (k + 1) (by simpa using hk) x y (by simpa using hx) (by simpa using hy)
    have h0 : flt f g := h 0 (by simp) f g rfl rfl
    refine List.pairwise_cons.mpr ⟨fun x hx => ?_, ih⟩
    rcases List.mem_cons.mp hx with rfl | hx
    · exact h0
    · exact flt_tr h0 ((List.pairwise_cons.mp ih).1 x hx)
/-- signs as numbers -/
def fd (f : Text) : List Int := f.map fun c => findT [48, 49, 42] [c]
theorem fd_lt : ∀ {f g : Text}, isF f → isF g → (fd f < fd g ↔ flt f g)
  | [], [], _, _ => by simp [fd, flt, od]
  | [], b :: g, _, _ => by simp [fd, flt, od]
  | a :: f, [], _, _ => by simp [fd, flt, od]
  | a :: f, b :: g, hf, hg => by
    have ih := fd_lt (isF_tail hf) (isF_tail hg)
    show (findT [48, 49, 42] [a] :: fd f < findT [48, 49, 42] [b] :: fd g) ↔ (dg a :: od f < dg b :: od g)
    rw [List.cons_lt_cons_iff, List.cons_lt_cons_iff, ih]
    have e1 : findT [48, 49, 42] [48] = 0 := by decide +kernel
    have e2 : findT [48, 49, 42] [49] = 1 := by decide +kernel
    have e3 : findT [48, 49, 42] [42] = 2 := by decide +kernel
    rcases hf a List.mem_cons_self with rfl | rfl | rfl <;> rcases hg b List.mem_cons_self with rfl | rfl | rfl <;> simp only [e1, e2, e3] <;> simp [dg]
theorem fd_inj {f g : Text} (hf : isF f) (hg : isF g) (h : fd f = fd g) : f = g := by
  have h1 : ¬ flt f g := fun q => by have := (fd_lt hf hg).mpr q; rw [h] at this; exact List.lt_irrefl _ this
  have h2 : ¬ flt g f := fun q => by have := (fd_lt hg hf).mpr q; rw [h] at this; exact List.lt_irrefl _ this
  exact od_inj hf hg (List.le_antisymm (List.not_lt.mp h2) (List.not_lt.mp h1))
/-! ### two faces made one -/
def unl : Text → Text → List Nat
  | a :: f, c :: g => if a = c then (unl f g).map (· + 1) else 0 :: (unl f g).map (· + 1)
  | _, _ => []
def oneOf (f g : Text) : Option Text :=
  match unl f g with
  | [u] => if (f[u]? = some 48 ∧ g[u]? = some 49) ∨ (f[u]? = some 49 ∧ g[u]? = some 48) then some (f.take u ++ [42] ++ f.drop (u + 1)) else none
  | _ => none
theorem unl_nil : ∀ {f g : Text}, f.length = g.length → (unl f g = [] ↔ f = g)
  | [], [], _ => by simp [unl]
  | a :: f, c :: g, h => by
    have ih := unl_nil (f := f) (g := g) (by simpa using h)
    unfold unl
    by_cases e : a = c
    · rw [if_pos e]; simp [ih, e]
    · rw [if_neg e]; simp [e]
theorem unl_one : ∀ {f g : Text} {u : Nat}, f.length = g.length → unl f g = [u] → ∃ p r a c, f = p ++ a :: r ∧ g = p ++ c :: r ∧ p.length = u ∧ a ≠ c
  | [], [], u, _, h => by cases h
  | a :: f, c :: g, u, hl, h => by
    have hl' : f.length = g.length := by simpa using hl
    unfold unl at h
    by_cases e : a = c
    · rw [if_pos e] at h
      cases hu : unl f g with
      | nil => rw [hu] at h; cases h
      | cons v vs =>
        rw [hu] at h
        simp only [List.map_cons, List.cons.injEq, List.map_eq_nil_iff] at h
        obtain ⟨h1, h2⟩ := h
        subst h2
        obtain ⟨p, r, x, y, e1, e2, e3, e4⟩ := unl_one hl' hu
        exact ⟨a :: p, r, x, y, by rw [e1]; rfl, by rw [e2, e]; rfl, by rw [List.length_cons, e3, h1], e4⟩
    · rw [if_neg e] at h
      simp only [List.cons.injEq, List.map_eq_nil_iff] at h
      obtain ⟨h1, h2⟩ := h
      exact ⟨[], f, a, c, rfl, by rw [(unl_nil hl').mp h2]; rfl, h1, e⟩
theorem unl_of : ∀ (p : Text) {r : Text} {a c : Nat}, a ≠ c → unl (p ++ a :: r) (p ++ c :: r) = [p.length]
  | [], r, a, c, h => by
    show (if a = c then _ else _) = _
    rw [if_neg h, (unl_nil rfl).mpr rfl]; rfl
  | x :: p, r, a, c, h => by
    have ih := unl_of p (r := r) h
    show (if x = x then (unl (p ++ a :: r) (p ++ c :: r)).map (· + 1) else _) = _
    rw [if_pos rfl, ih]; rfl
theorem oneOf_some {f g h : Text} (hl : f.length = g.length) (e : oneOf f g = some h) : ∃ p r, h = p ++ 42 :: r ∧ ((f = p ++ 48 :: r ∧ g = p ++ 49 :: r) ∨ (f = p ++ 49 :: r ∧ g = p ++ 48 :: r)) := by
  unfold oneOf at e
  split at e
  · rename_i u hu
    obtain ⟨p, r, a, c, e1, e2, e3, e4⟩ := unl_one hl hu
    subst e1 e2 e3
    split at e
    · rename_i q
      injection e with e
      refine ⟨p, r, ?_, ?_⟩
      · rw [← e]; simp
      · simp only [List.getElem?_append_right (Nat.le_refl _), Nat.sub_self, List.getElem?_cons_zero, Option.some.injEq] at q
        rcases q with ⟨rfl, rfl⟩ | ⟨rfl, rfl⟩
        · exact .inl ⟨rfl, rfl⟩
        · exact .inr ⟨rfl, rfl⟩
    · cases e
  · cases e
theorem oneOf_of (p r : Text) {a c : Nat} (h : (a = 48 ∧ c = 49) ∨ (a = 49 ∧ c = 48)) : oneOf (p ++ a :: r) (p ++ c :: r) = some (p ++ 42 :: r) := by
  unfold oneOf
  rw [unl_of p (by rcases h with ⟨rfl, rfl⟩ | ⟨rfl, rfl⟩ <;> decide)]
  simp [h]
theorem oneOf_self (f : Text) : oneOf f f = none := by
  unfold oneOf
  rw [(unl_nil rfl).mpr rfl]
theorem crn_app : ∀ (p f : Text), crn (p ++ f) = (crn p).flatMap fun c => (crn f).map (c ++ ·)
  | [], f => by simp [crn]
  | a :: p, f => by
    show crn (a :: (p ++ f)) = _
    simp only [crn, crn_app p f]
    by_cases h1 : a = 48 ∨ a = 42 <;> by_cases h2 : a = 49 ∨ a = 42 <;> simp [h1, h2, List.flatMap_append, List.flatMap_map, List.map_flatMap, List.map_map, Function.comp_def]
theorem crn_star_split (p r : Text) : (crn (p ++ 42 :: r)).Perm (crn (p ++ 48 :: r) ++ crn (p ++ 49 :: r)) := by
  rw [crn_app, crn_app, crn_app]
  have e : (fun c => (crn (42 :: r)).map (c ++ ·)) = fun c : Text => (crn (48 :: r)).map (c ++ ·) ++ (crn (49 :: r)).map (c ++ ·) := by
    funext c
    simp [crn]
  rw [e]
  exact (flatMap_two ..).symm
theorem oneOf_crn {f g h : Text} (hl : f.length = g.length) (e : oneOf f g = some h) : (crn h).Perm (crn f ++ crn g) := by
  obtain ⟨p, r, rfl, ⟨rfl, rfl⟩ | ⟨rfl, rfl⟩⟩ := oneOf_some hl e
  · exact crn_star_split p r
  · exact (crn_star_split p r).trans List.perm_append_comm
theorem oneOf_face {f g h : Text} {b : Nat} (hf : f.length = b ∧ isF f) (hg : g.length = b ∧ isF g) (e : oneOf f g = some h) : h.length = b ∧ isF h := by
  obtain ⟨p, r, rfl, q⟩ := oneOf_some (hf.1.trans hg.1.symm) e
  have key : ∀ a : Nat, (p ++ a :: r).length = b → isF (p ++ a :: r) → (p ++ 42 :: r).length = b ∧ isF (p ++ 42 :: r) := fun a h1 h2 => by
    refine ⟨by rw [← h1]; simp, fun c hc => ?_⟩
    rcases List.mem_append.mp hc with hc | hc
    · exact h2 c (List.mem_append_left _ hc)
    · rcases List.mem_cons.mp hc with rfl | hc
      · exact .inr (.inr rfl)
      · exact h2 c (List.mem_append_right _ (List.mem_cons_of_mem _ hc))
  rcases q with ⟨rfl, rfl⟩ | ⟨rfl, rfl⟩
  · exact key _ hf.1 hf.2
  · exact key _ hf.1 hf.2
/-- made coarser: any two that make one made one -/
inductive Crs : List Text → List Text → Prop
  | refl (fs) : Crs fs fs
  | step {fs gs rest : List Text} {f g h : Text} : Crs fs gs → gs.Perm (f :: g :: rest) → oneOf f g = some h → Crs fs (rest ++ [h])
theorem Crs.faces {b : Nat} {fs gs : List Text} (c : Crs fs gs) (h : Faces b fs) : Faces b gs ∧ gs.length ≤ fs.length ∧ (gs.flatMap crn).Perm (fs.flatMap crn) := by
  induction c with
  | refl => exact ⟨h, Nat.le_refl _, .refl _⟩
  | @step gs rest f g k c p e ih =>
    obtain ⟨h1, h2, h3⟩ := ih
    have hf := h1 f (p.mem_iff.mpr (by simp))
    have hg := h1 g (p.mem_iff.mpr (by simp))
    have hk := oneOf_face hf hg e
    refine ⟨fun x hx => ?_, ?_, ?_⟩
    · rcases List.mem_append.mp hx with hx | hx
      · exact h1 x (p.mem_iff.mpr (by simp [hx]))
      · rw [List.mem_singleton.mp hx]; exact hk
    · have := p.length_eq
      simp only [List.length_cons, List.length_append, List.length_nil] at this ⊢
      omega
    · refine List.Perm.trans ?_ ((p.flatMap_right crn).symm.trans h3)
      rw [List.flatMap_append]
      simp only [List.flatMap_cons, List.flatMap_nil, List.append_nil]
      refine (List.Perm.append_left _ (oneOf_crn (hf.1.trans hg.1.symm) e)).trans ?_
      rw [← List.append_assoc (crn f)]
      exact List.perm_append_comm
theorem Crs.part {b : Nat} {z fs gs : List Text} (c : Crs fs gs) (hz : z.Nodup) (h : Part b z fs) : Part b z (srtF gs) := by
  obtain ⟨h1, _, h3⟩ := c.faces h.fc
  exact Part.sorted hz h1 (h3.trans h.cs)
/-- the corners alone are a parting -/
theorem corners_part {b : Nat} {z : List Text} (hz : z.Sublist (allC b)) : Part b z z := by
  have hs : ∀ c ∈ z, ∀ d ∈ c, d = 48 ∨ d = 49 := fun c hc => allC_signs (hz.subset hc)
  refine ⟨fun f hf => ⟨allC_len (hz.subset hf), corner_isF (hs f hf)⟩, ?_, ?_⟩
  · refine List.Pairwise.imp_of_mem ?_ (sub_sorted hz)
    intro a c ha hc q
    show od a < od c
    rw [od_corner (hs a ha), od_corner (hs c hc)]; exact q
  · have : z.flatMap crn = z := by
      clear hz
      induction z with
      | nil => rfl
      | cons c z ih =>
        rw [List.flatMap_cons, corner_crn (hs c List.mem_cons_self), ih fun d hd => hs d (List.mem_cons_of_mem _ hd)]; rfl
    rw [this]
/-- two of a row out -/
theorem two_out {α : Type} {xs : List α} {i j : Nat} {x y : α} (hi : xs[i]? = some x) (hj : xs[j]? = some y) (hij : i ≠ j) :
    xs.Perm (x :: y :: (enI xs).filterMap fun p => if (!memB p.1 [(i : Int), (j : Int)]) = true then some p.2 else none) := by
  have key : ∀ (xs : List α) (o i j : Nat), i ≠ j → ∀ x y, xs[i]? = some x → xs[j]? = some y →
      xs.Perm (x :: y :: ((xs.zipIdx o).map fun p => ((p.2 : Int), p.1)).filterMap fun p => if (!memB p.1 [((o + i : Nat) : Int), ((o + j : Nat) : Int)]) = true then some p.2 else none) := by
    have none_out : ∀ (xs : List α) (o : Nat) (a b : Int), a < o → b < o → (((xs.zipIdx o).map fun p => ((p.2 : Int), p.1)).filterMap fun p => if (!memB p.1 [a, b]) = true then some p.2 else none) = xs := by
      intro xs
      induction xs with
      | nil => intros; rfl
      | cons z xs ih =>
        intro o a b ha hb
        rw [List.zipIdx_cons, List.map_cons, List.filterMap_cons, ih (o + 1) a b (by omega) (by omega)]
        have : memB (o : Int) [a, b] = false := by
          rw [Bool.eq_false_iff]; intro q
          rw [memB_iff] at q
          simp at q; omega
        simp [this]
    have one_out : ∀ (xs : List α) (o i : Nat) (a : Int), a < o → ∀ x, xs[i]? = some x → xs.Perm (x :: ((xs.zipIdx o).map fun p => ((p.2 : Int), p.1)).filterMap fun p => if (!memB p.1 [a, ((o + i : Nat) : Int)]) = true then some p.2 else none) := by
      intro xs
      induction xs with
      | nil => intro o i a _ x h; cases h
      | cons z xs ih =>
        intro o i a ha x hx
        rw [List.zipIdx_cons, List.map_cons, List.filterMap_cons]
        cases i with
        | zero =>
          have : memB (o : Int) [a, ((o + 0 : Nat) : Int)] = true := by rw [memB_iff]; simp
          simp only [this]
          rw [none_out xs (o + 1) a _ (by omega) (by omega)]
          have : z = x := by simpa using hx
          subst this; exact .refl _
        | succ i =>
          have : memB (o : Int) [a, ((o + (i + 1) : Nat) : Int)] = false := by
            rw [Bool.eq_false_iff]; intro q
            rw [memB_iff] at q
            simp at q; omega
          simp only [this]
          have := ih (o + 1) i a (by omega) x (by simpa using hx)
          rw [show o + 1 + i = o + (i + 1) by omega] at this
          exact (List.Perm.cons z this).trans (List.Perm.swap ..)
    have swap_out : ∀ (a b : Int) (l : List (Int × α)), (l.filterMap fun p => if (!memB p.1 [a, b]) = true then some p.2 else none) = l.filterMap fun p => if (!memB p.1 [b, a]) = true then some p.2 else none := by
      intro a b l
      congr 1
      funext p
      have : memB p.1 [a, b] = memB p.1 [b, a] := by
        rw [Bool.eq_iff_iff, memB_iff, memB_iff]; simp [or_comm]
      rw [this]
    intro xs
    induction xs with
    | nil => intro o i j _ x y h; cases h
    | cons z xs ih =>
      intro o i j hij x y hx hy
      rw [List.zipIdx_cons, List.map_cons, List.filterMap_cons]
      cases i with
      | zero =>
        cases j with
        | zero => exact absurd rfl hij
        | succ j =>
          have : memB (o : Int) [((o + 0 : Nat) : Int), ((o + (j + 1) : Nat) : Int)] = true := by rw [memB_iff]; simp
          simp only [this]
          have e : z = x := by simpa using hx
          subst e
          have := one_out xs (o + 1) j ((o + 0 : Nat) : Int) (by omega) y (by simpa using hy)
          rw [show o + 1 + j = o + (j + 1) by omega] at this
          exact List.Perm.cons z this
      | succ i =>
        cases j with
        | zero =>
          have : memB (o : Int) [((o + (i + 1) : Nat) : Int), ((o + 0 : Nat) : Int)] = true := by rw [memB_iff]; simp
          simp only [this]
          have e : z = y := by simpa using hy
          subst e
          have := one_out xs (o + 1) i ((o + 0 : Nat) : Int) (by omega) x (by simpa using hx)
          rw [show o + 1 + i = o + (i + 1) by omega] at this
          rw [swap_out]
          exact (List.Perm.cons z this).trans (List.Perm.swap ..)
        | succ j =>
          have : memB (o : Int) [((o + (i + 1) : Nat) : Int), ((o + (j + 1) : Nat) : Int)] = false := by
            rw [Bool.eq_false_iff]; intro q
            rw [memB_iff] at q
            simp at q; omega
          simp only [this]
          have := ih (o + 1) i j (by omega) x y (by simpa using hx) (by simpa using hy)
          rw [show o + 1 + i = o + (i + 1) by omega, show o + 1 + j = o + (j + 1) by omega] at this
          exact (List.Perm.cons z this).trans ((List.Perm.swap ..).trans (List.Perm.cons _ (List.Perm.swap ..)))
  have := key xs 0 i j hij x y hi hj
  simpa [enI] using this
end Pt

set_option Elab.async false
set_option linter.all false
set_option maxRecDepth 100000
set_option maxHeartbeats 4000000
namespace G
open PySem PySem.Spec PyProof.Rows L2 Sm
def topS (i : Nat) : Stmt := PySem.Challenge.pw_facesparted_k06_partings_looked_at.main.body.getD i (.Pass ⟨0, 0, 0, 0⟩)
abbrev s_order_of : Stmt := topS 2
abbrev s_in_order : Stmt := topS 3
abbrev s_corners_of : Stmt := topS 4
abbrev s_is_face : Stmt := topS 6
abbrev s_is_parting : Stmt := topS 7
abbrev s__law_mix : Stmt := topS 9
abbrev s__law_deck : Stmt := topS 10
abbrev s__law_next : Stmt := topS 11
abbrev s__law_bits : Stmt := topS 12
abbrev s__law_face : Stmt := topS 13
abbrev s__law_all : Stmt := topS 14
abbrev s__law_lies : Stmt := topS 15
abbrev s__law_set : Stmt := topS 16
abbrev s__law_sorted : Stmt := topS 17
abbrev s__law_one_of : Stmt := topS 18
abbrev s__law_coarser : Stmt := topS 19
abbrev s__law_numbers : Stmt := topS 20
abbrev s__law_is_parting : Stmt := topS 21
abbrev s__law_spoilt : Stmt := topS 22
abbrev s__law_right : Stmt := topS 23
abbrev s_law : Stmt := topS 24
structure Bl (mg : Str → Option Value) : Prop where
  bool_ : mg "bool" = none
  enumerate_ : mg "enumerate" = none
  int_ : mg "int" = none
  isinstance_ : mg "isinstance" = none
  len_ : mg "len" = none
  list_ : mg "list" = none
  max_ : mg "max" = none
  min_ : mg "min" = none
  range_ : mg "range" = none
  sorted_ : mg "sorted" = none
  str_ : mg "str" = none
  sum_ : mg "sum" = none
  tuple_ : mg "tuple" = none
/-- the deck, of which only the number of draws is told -/
def deckI (n : Nat) (s : List (List Int ⊕ Int)) : Prop := ∃ (cells : List Int) (i rest cnt tot : Int), s = [.inl cells, .inr i, .inr rest, .inr cnt, .inr tot] ∧ cells.length ≤ 63 ∧ 0 ≤ i ∧ i ≤ 63 ∧ 0 ≤ cnt ∧ cnt ≤ n
def deckN (K : PySem.W.Frag) (a : Addr) : Nat → Res := hidR deckI (resL (pS (pL K pI) pI) a)
def nextD : Int × Unit → Nat → (Int → Nat → Prop) → Prop := fun a n k => 0 < a.1 ∧ a.1 < 2 ^ 30 ∧ n < 2 ^ 40 ∧ ∀ r, 0 ≤ r → r < a.1 → k r (n + 1)
abbrev spNext (K : PySem.W.Frag) : Sp := SpF Addr (fun ad (a : Int × Unit) => [fz pA ad, fz pI a.1]) (deckN K) (fz pI) nextD
section
variable {P : Program} {w : World} {K : PySem.W.Frag} {mg : Str → Option Value} {base : Heap}
def m_order_of : Text × Unit → Unit → (Text → Unit → Prop) → Prop := fun a s0 k =>
  (((sgs a.1)).length ≤ sizeLine ∧ compW (fun sign1 s2 k4 => (((findT ([48, 49, 42]) sign1) : Int).natAbs.log2 < 1920 ∧ k4 (some ((strI ((findT ([48, 49, 42]) sign1))))) s2)) (fun ys5 s3 => ((ys5.map (·.length)).sum + ys5.length * ([] : Text).length ≤ 16777216 ∧ k ((joinT ([] : Text) ys5)) s3)) ((sgs a.1)) s0 [])
abbrev sp_order_of (K : PySem.W.Frag) : Sp := SpF Unit (fun ad (a : Text × Unit) => [fz pT a.1]) (fun _ _ => emp) (fz pT) m_order_of
theorem sc_order_of : FnScope ["face", "sign"] ["face"] (defScope s_order_of) := ⟨rfl, rfl, rfl, by decide +kernel, rfl, by decide +kernel, by decide +kernel⟩
theorem ok_order_of {t_SIGNS : Tok} {f : Addr} {fd : FuncData} (F : Fun K "order_of" "order_of" s_order_of f fd) (B : Bl mg) (C_SIGNS : mg "SIGNS" = some (.str ⟨[48, 49, 42].toArray⟩ t_SIGNS))  : FnOk P w K mg base CX0 1 f fd ["face"] (sp_order_of K) :=
  fn_ok F sc_order_of (fun _ _ => rfl) (fun M ad a s0 HI F0 R => XSs.conv (
    xs_ret (Same.refl _) (xe_joinL (xe_str ([] : Text)) (fun _ => xe_fr (xe_lc [("sign", 1)] (xi_str (xe_var (i := 0) rfl)) (xg_name 1) (fun sign1 s2 => xe_strI B.str_ (xe_find (xe_glob (v := (.str ⟨[48, 49, 42].toArray⟩)) (a := [48, 49, 42]) C_SIGNS ⟨_, rfl⟩ (fun _ => ⟨rfl, by decide⟩)) (fun _ => xe_var (i := 1) rfl))))))
    ) (by exact fun h => h))
def m_in_order : (List Text) × Unit → Unit → ((List Text) → Unit → Prop) → Prop := fun a s0 k =>
  (a.1.length ≤ sizeLine ∧ compW (fun face1 s2 k4 => m_order_of (face1, ()) () (fun r10 _ => k4 (some ((r10, face1))) s2)) (fun ys11 s3 => (((srtE (eP eT eT) ys11)).length ≤ sizeLine ∧ compW (fun order5 s6 k8 => k8 (some order5.2) s6) (fun ys9 s7 => k ys9 s7) ((srtE (eP eT eT) ys11)) s3 [])) a.1 s0 [])
abbrev sp_in_order (K : PySem.W.Frag) : Sp := SpF Unit (fun ad (a : (List Text) × Unit) => [fz (pU K pT) a.1]) (fun _ _ => emp) (fz (pU K pT)) m_in_order
theorem sc_in_order : FnScope ["faces", "order", "face"] ["faces"] (defScope s_in_order) := ⟨rfl, rfl, rfl, by decide +kernel, rfl, by decide +kernel, by decide +kernel⟩
theorem ok_in_order  {f : Addr} {fd : FuncData} (F : Fun K "in_order" "in_order" s_in_order f fd) (B : Bl mg)  (h_order_of : Has P w K mg base "order_of" 1 ["face"] (sp_order_of K)) : FnOk P w K mg base CX0 2 f fd ["faces"] (sp_in_order K) :=
  fn_ok F sc_in_order (fun _ _ => rfl) (fun M ad a s0 HI F0 R => XSs.conv (
    xs_ret (Same.refl _) (xe_tupL B.tuple_ (xe_fr (xe_lc [("order", 1), ("face", 2)] (xi_list (xe_fr (xe_sorted (dP dT dT) (sP sT sT) B.sorted_ (xe_fr (xe_lc [("face", 2)] (xi_tup (xe_var (i := 0) rfl)) (xg_name 2) (fun face1 s2 => xe_tup2 (xe_call h_order_of () foc_emp (xa_cons (xe_var (i := 2) rfl) (fun _ => xa_nil))) (fun _ => xe_var (i := 2) rfl))))))) (xg_tup2 (xg_name 1) (xg_name 2)) (fun order5 s6 => xe_var (i := 2) rfl))))
    ) (by exact fun h => h))
def m_corners_of : Text × Unit → Unit → ((List Text) → Unit → Prop) → Prop := fun a s0 k =>
  let found1 := [([] : Text)]; forB (fun sign6 (c3 : (List Text)) s7 kn8 kb9 => let longer10 := ([] : List Text); forB (fun corner15 (c12 : (List Text)) s16 kn17 kb18 => (((sgs ([48, 49]))).length ≤ sizeLine ∧ compW (fun bit21 s22 k24 => (if (memB sign6 ([bit21, [42]])) = true then (corner15.length + bit21.length ≤ sizeLine ∧ k24 (some ((corner15 ++ bit21))) s22) else k24 none s22)) (fun ys26 s23 => (c12.length + ys26.length ≤ sizeLine ∧ let longer25 := (c12 ++ ys26); kn17 longer25 s23)) ((sgs ([48, 49]))) s16 [])) (fun c27 s28 => kn8 c27 s28) c3 longer10 s7) (fun c31 s32 => k c31 s32) ((sgs a.1)) found1 s0
abbrev sp_corners_of (K : PySem.W.Frag) : Sp := SpF Unit (fun ad (a : Text × Unit) => [fz pT a.1]) (fun _ _ => emp) (fz (pU K pT)) m_corners_of
theorem sc_corners_of : FnScope ["face", "found", "sign", "longer", "corner", "bit"] ["face"] (defScope s_corners_of) := ⟨rfl, rfl, rfl, by decide +kernel, rfl, by decide +kernel, by decide +kernel⟩
theorem ok_corners_of  {f : Addr} {fd : FuncData} (F : Fun K "corners_of" "corners_of" s_corners_of f fd) (B : Bl mg)   : FnOk P w K mg base CX0 1 f fd ["face"] (sp_corners_of K) :=
  fn_ok F sc_corners_of (fun _ _ => rfl) (fun M ad a s0 HI F0 R => XSs.conv (
    xs_set 1 (xe_fr (xe_lst (ra := pT) (xl_cons (xe_str ([] : Text)) (fun _ => xl_nil)))) (fun found1 s2 => xs_for (fun (c3 : (List Text)) => [some (fz pT a.1), some (fz (pL K pT) c3), none, none, none, none]) found1 (xi_str (xe_var (i := 0) rfl)) (xg_name 2) (.keep (.keep (.drop (.drop (.drop (.drop .nil)))))) (fun F4 e5 sign6 c3 kn8 kb9 s7 => xs_set 3 (xe_lst (ra := pT) (xl_nil)) (fun longer10 s11 => xs_for (fun (c12 : (List Text)) => [some (fz pT a.1), some (fz (pL K pT) c3), some (fz pT sign6), some (ol pT c12), none, none]) longer10 (xi_list (xe_var (i := 1) rfl)) (xg_name 4) (.keep (.keep (.keep (.keep (.drop (.drop .nil)))))) (fun F13 e14 corner15 c12 kn17 kb18 s16 => xs_extend 3 rfl (xe_lcif [("bit", 5)] (xi_str (xe_str [48, 49])) (xg_name 5) (fun bit21 s22 => xts_one (xt_cmp (xc_inU fT (xe_var (i := 2) rfl) (fun _ => xe_tupU (ra := pT) (xl_cons (xe_var (i := 5) rfl) (fun _ => xl_cons (xe_str [42]) (fun _ => xl_nil))))))) (fun bit21 s22 => xe_addT (xe_var (i := 4) rfl) (fun _ => xe_var (i := 5) rfl))) (fun y19 s20 => xs_nil (c12 ++ y19) (.keep (.keep (.keep (.keep (.drop (.drop .nil)))))))) (fun c27 s28 => xs_freeze 3 rfl (xs_set 1 (xe_var (i := 3) rfl) (fun found29 s30 => xs_nil found29 (.keep (.keep (.drop (.drop (.drop (.drop .nil))))))))))) (fun c31 s32 => xs_ret (Same.refl _) (xe_tupL B.tuple_ (xe_var (i := 1) rfl))))
    ) (by exact fun h => h))
def m_is_face : Int × Text × Unit → Unit → (Bool → Unit → Prop) → Prop := fun a s0 k =>
  jn (fun k5 => (a.2.1.length ≤ sizeLine ∧ (if (eqB ((a.2.1.length : Int)) a.1) = true then (((sgs a.2.1)).length ≤ sizeLine ∧ compW (fun sign1 s2 k4 => (if (!inT sign1 ([48, 49, 42])) = true then k4 (some sign1) s2 else k4 none s2)) (fun ys8 s3 => k5 ((eqB ys8 (([] : List Text)))) s3) ((sgs a.2.1)) s0 []) else k5 false s0))) (fun b6 s7 => k b6 s7)
abbrev sp_is_face (K : PySem.W.Frag) : Sp := SpF Unit (fun ad (a : Int × Text × Unit) => [fz pI a.1, fz pT a.2.1]) (fun _ _ => emp) (fz pB) m_is_face
theorem sc_is_face : FnScope ["bits", "text", "sign"] ["bits", "text"] (defScope s_is_face) := ⟨rfl, rfl, rfl, by decide +kernel, rfl, by decide +kernel, by decide +kernel⟩
theorem ok_is_face {t_SIGNS : Tok} {f : Addr} {fd : FuncData} (F : Fun K "is_face" "is_face" s_is_face f fd) (B : Bl mg) (C_SIGNS : mg "SIGNS" = some (.str ⟨[48, 49, 42].toArray⟩ t_SIGNS))  : FnOk P w K mg base CX0 1 f fd ["bits", "text"] (sp_is_face K) :=
  fn_ok F sc_is_face (fun _ _ => rfl) (fun M ad a s0 HI F0 R => XSs.conv (
    xs_ret (Same.refl _) (xe_and (xe_cmp (xc_eq dI (xe_lenT B.len_ (xe_var (i := 1) rfl)) (fun _ => xe_var (i := 0) rfl))) (fun _ => xe_one (xe_cmp (xc_eq (dL dT) (xe_fr (xe_lcif [("sign", 2)] (xi_str (xe_var (i := 1) rfl)) (xg_name 2) (fun sign1 s2 => xts_one (xt_cmp (xc_ninT (xe_var (i := 2) rfl) (fun _ => xe_glob (v := (.str ⟨[48, 49, 42].toArray⟩)) (a := [48, 49, 42]) C_SIGNS ⟨_, rfl⟩ (fun _ => ⟨rfl, by decide⟩))))) (fun sign1 s2 => xe_var (i := 2) rfl))) (fun _ => xe_fr (xe_lst (ra := pT) (xl_nil)))))))
    ) (by exact fun h => h))
def m_is_parting : (Int × (List Text)) × (List Text) × Unit → Unit → (Bool → Unit → Prop) → Prop := fun a s0 k =>
  jn (fun k24 => (a.2.1.length ≤ sizeLine ∧ compW (fun face3 s4 k6 => m_is_face (a.1.1, face3, ()) () (fun r27 _ => (if (!r27) = true then k6 (some face3) s4 else k6 none s4))) (fun ys28 s5 => (if (!eqB ys28 (([] : List Text))) = true then k24 true s5 else m_in_order (a.2.1, ()) () (fun r29 _ => k24 ((!eqB r29 a.2.1)) s5))) a.2.1 s0 [])) (fun b25 s26 => (if b25 = true then let __n := (); k false s26 else let __n := (); let found9 := ([] : List Text); forB (fun face14 (c11 : (List Text)) s15 kn16 kb17 => m_corners_of (face14, ()) () (fun r21 _ => (c11.length + r21.length ≤ sizeLine ∧ let found20 := (c11 ++ r21); kn16 found20 s15))) (fun c22 s23 => k ((eqB ((srtE eT c22)) a.1.2)) s23) a.2.1 found9 s26))
abbrev sp_is_parting (K : PySem.W.Frag) : Sp := SpF Unit (fun ad (a : (Int × (List Text)) × (List Text) × Unit) => [fz (pP K pI (pU K pT)) a.1, fz (pU K pT) a.2.1]) (fun _ _ => emp) (fz pB) m_is_parting
theorem sc_is_parting : FnScope ["some", "faces", "bits", "corners", "face", "found"] ["some", "faces"] (defScope s_is_parting) := ⟨rfl, rfl, rfl, by decide +kernel, rfl, by decide +kernel, by decide +kernel⟩
theorem ok_is_parting  {f : Addr} {fd : FuncData} (F : Fun K "is_parting" "is_parting" s_is_parting f fd) (B : Bl mg)  (h_is_face : Has P w K mg base "is_face" 1 ["bits", "text"] (sp_is_face K)) (h_in_order : Has P w K mg base "in_order" 2 ["faces"] (sp_in_order K)) (h_corners_of : Has P w K mg base "corners_of" 1 ["face"] (sp_corners_of K)) : FnOk P w K mg base CX0 3 f fd ["some", "faces"] (sp_is_parting K) :=
  fn_ok F sc_is_parting (fun _ _ => rfl) (fun M ad a s0 HI F0 R => XSs.conv (
    xs_asg (xe_var (i := 0) rfl) (xg_tup2 (xg_name 2) (xg_name 3)) (fun p1 s2 => xs_if (xt_w (xw_or (xt_cmp (xc_ne (dL dT) (xe_fr (xe_lcif [("face", 4)] (xi_tup (xe_var (i := 1) rfl)) (xg_name 4) (fun face3 s4 => xts_one (xt_not (xt_val (xe_call h_is_face () foc_emp (xa_cons (xe_var (i := 2) rfl) (fun _ => xa_cons (xe_var (i := 4) rfl) (fun _ => xa_nil))))))) (fun face3 s4 => xe_var (i := 4) rfl))) (fun _ => xe_fr (xe_lst (ra := pT) (xl_nil))))) (fun _ => xw_or1 (xt_cmp (xc_ne (dU dT) (xe_call h_in_order () foc_emp (xa_cons (xe_var (i := 1) rfl) (fun _ => xa_nil))) (fun _ => xe_var (i := 1) rfl)))))) (fun _ s7 => xs_ret (Same.refl _) (xe_bl)) (fun s8 => xs_set 5 (xe_lst (ra := pT) (xl_nil)) (fun found9 s10 => xs_for (fun (c11 : (List Text)) => [some (fz (pP K pI (pU K pT)) a.1), some (fz (pU K pT) a.2.1), some (fz pI p1.1), some (fz (pU K pT) p1.2), none, some (ol pT c11)]) found9 (xi_tup (xe_var (i := 1) rfl)) (xg_name 4) (.keep (.keep (.keep (.keep (.drop (.keep .nil)))))) (fun F12 e13 face14 c11 kn16 kb17 s15 => xs_extendU 5 rfl (xe_call h_corners_of () foc_emp (xa_cons (xe_var (i := 4) rfl) (fun _ => xa_nil))) (fun y18 s19 => xs_nil (c11 ++ y18) (.keep (.keep (.keep (.keep (.drop (.keep .nil)))))))) (fun c22 s23 => xs_freeze 5 rfl (xs_ret (Same.refl _) (xe_cmp (xc_eq (dL dT) (xe_fr (xe_sorted dT sT B.sorted_ (xe_var (i := 5) rfl))) (fun _ => xe_fr (xe_listU B.list_ (xe_var (i := 3) rfl))))))))))
    ) (by exact fun h => h))
def m__law_mix : Int × Int × Unit → Unit → (Int → Unit → Prop) → Prop := fun a s0 k =>
  ((0 : Int) < (2147483629 : Int) ∧ (CMul (1000003 : Int) a.2.1 ∧ (CMul (((1000003 : Int) * a.2.1)) a.2.1 ∧ let number1 := ((a.1 % (2147483629 : Int)) + (((1000003 : Int) * a.2.1) * a.2.1)); (CMul (7919 : Int) a.2.1 ∧ ((0 : Int) < (2147483629 : Int) ∧ let number3 := ((number1 + ((7919 : Int) * a.2.1)) % (2147483629 : Int)); (CMul number3 number3 ∧ ((0 : Int) < (2147483587 : Int) ∧ let number5 := ((number3 * number3) % (2147483587 : Int)); (CMul number5 ((number5 + (40961 : Int))) ∧ ((0 : Int) < (2147483563 : Int) ∧ (CDiv (((number5 * (number5 + (40961 : Int))) % (2147483563 : Int))) (4 : Int) ∧ k ((((number5 * (number5 + (40961 : Int))) % (2147483563 : Int)) / (4 : Int))) s0))))))))))
abbrev sp__law_mix (K : PySem.W.Frag) : Sp := SpF Unit (fun ad (a : Int × Int × Unit) => [fz pI a.1, fz pI a.2.1]) (fun _ _ => emp) (fz pI) m__law_mix
theorem sc__law_mix : FnScope ["cell", "k", "number"] ["cell", "k"] (defScope s__law_mix) := ⟨rfl, rfl, rfl, by decide +kernel, rfl, by decide +kernel, by decide +kernel⟩
theorem ok__law_mix  {f : Addr} {fd : FuncData} (F : Fun K "_law_mix" "_law_mix" s__law_mix f fd) (B : Bl mg)   : FnOk P w K mg base CX0 1 f fd ["cell", "k"] (sp__law_mix K) :=
  fn_ok F sc__law_mix (fun _ _ => rfl) (fun M ad a s0 HI F0 R => XSs.conv (
    xs_set 2 (xe_add (xe_mod (xe_var (i := 0) rfl) (fun _ => xe_int)) (fun _ => xe_mul (xe_mul (xe_int) (fun _ => xe_var (i := 1) rfl)) (fun _ => xe_var (i := 1) rfl))) (fun number1 s2 => xs_set 2 (xe_mod (xe_add (xe_var (i := 2) rfl) (fun _ => xe_mul (xe_int) (fun _ => xe_var (i := 1) rfl))) (fun _ => xe_int)) (fun number3 s4 => xs_set 2 (xe_mod (xe_mul (xe_var (i := 2) rfl) (fun _ => xe_var (i := 2) rfl)) (fun _ => xe_int)) (fun number5 s6 => xs_ret (Same.refl _) (xe_fdiv (xe_mod (xe_mul (xe_var (i := 2) rfl) (fun _ => xe_add (xe_var (i := 2) rfl) (fun _ => xe_int))) (fun _ => xe_int)) (fun _ => xe_int)))))
    ) (by exact fun h => h))
def m__law_deck : (List Int) × Unit → Unit → ((List ((List Int) ⊕ Int)) → Unit → Prop) → Prop := fun a s0 k =>
  k ([(Sum.inl ((cutG a.1 none (some (63 : Int))))), (Sum.inr (0 : Int)), (Sum.inr (0 : Int)), (Sum.inr (0 : Int)), (Sum.inr (((cutG a.1 none (some (63 : Int)))).sum))]) s0
abbrev sp__law_deck (K : PySem.W.Frag) : Sp := SpF Unit (fun ad (a : (List Int) × Unit) => [fz (pL K pI) a.1]) (fun _ _ => emp) (ol (pS (pL K pI) pI)) m__law_deck
theorem sc__law_deck : FnScope ["script"] ["script"] (defScope s__law_deck) := ⟨rfl, rfl, rfl, by decide +kernel, rfl, by decide +kernel, by decide +kernel⟩
theorem ok__law_deck  {f : Addr} {fd : FuncData} (F : Fun K "_law_deck" "_law_deck" s__law_deck f fd) (B : Bl mg)   : FnOk P w K mg base CX0 1 f fd ["script"] (sp__law_deck K) :=
  fn_ok F sc__law_deck (fun _ _ => rfl) (fun M ad a s0 HI F0 R => XSs.conv (
    xs_ret (Same.refl _) (xe_lst (ra := (pS (pL K pI) pI)) (xl_cons (xe_toL (rb := pI) (xe_fr (xe_cutL (xe_var (i := 0) rfl) (fun _ => xo_none) (fun _ => xo_some (xe_int))))) (fun _ => xl_cons (xe_toR (ra := (pL K pI)) (xe_int)) (fun _ => xl_cons (xe_toR (ra := (pL K pI)) (xe_int)) (fun _ => xl_cons (xe_toR (ra := (pL K pI)) (xe_int)) (fun _ => xl_cons (xe_toR (ra := (pL K pI)) (xe_sum B.sum_ (xe_fr (xe_cutL (xe_var (i := 0) rfl) (fun _ => xo_none) (fun _ => xo_some (xe_int)))))) (fun _ => xl_nil)))))))
    ) (by exact fun h => h))
def m__law_next : Int × Unit → (List (List Int ⊕ Int)) → (Int → (List (List Int ⊕ Int)) → Prop) → Prop := fun a s0 k =>
  jn (fun (kj1 : Unit → _ → Prop) => jn (fun k45 => (∃ y49, atI s0 (2 : Int) = some y49 ∧ (∃ y48, y49 = Sum.inr y48 ∧ (if (eqB y48 (0 : Int)) = true then (∃ y51, atI s0 (1 : Int) = some y51 ∧ (∃ y50, y51 = Sum.inr y50 ∧ (∃ y53, atI s0 (0 : Int) = some y53 ∧ (∃ y52, y53 = Sum.inl y52 ∧ k45 ((decide (y50 < (y52.length : Int)))) s0)))) else k45 false s0)))) (fun b46 s47 => (if b46 = true then let __ := (); (∃ y20, atI s47 (0 : Int) = some y20 ∧ (∃ y19, y20 = Sum.inl y19 ∧ (∃ y22, atI s47 (1 : Int) = some y22 ∧ (∃ y21, y22 = Sum.inr y21 ∧ (∃ y18, atI y19 y21 = some y18 ∧ (∃ y16, atI s47 (1 : Int) = some y16 ∧ (∃ y15, y16 = Sum.inr y15 ∧ (∃ n17, ixN s47.length (1 : Int) = some n17 ∧ let s7 := (s47.set n17 ((Sum.inr ((y15 + (1 : Int)))))); (CPow (10 : Int) (18 : Int) ∧ (if (decide (y18 < ((10 : Int) ^ ((18 : Int) : Int).toNat))) = true then let __n := (); (∃ y11, atI s7 (1 : Int) = some y11 ∧ (∃ y10, y11 = Sum.inr y10 ∧ m__law_mix (y18, y10, ()) () (fun r12 _ => ((0 : Int) < a.1 ∧ k ((r12 % a.1)) s7)))) else let __n := (); (∃ n14, ixN s7.length (2 : Int) = some n14 ∧ let s13 := (s7.set n14 ((Sum.inr y18))); kj1 (()) s13))))))))))) else let __ := (); kj1 (()) s47))) (fun z23 s4 => (∃ y44, atI s4 (2 : Int) = some y44 ∧ (∃ y43, y44 = Sum.inr y43 ∧ (if (decide ((0 : Int) < y43)) = true then let __n := (); (∃ y33, atI s4 (2 : Int) = some y33 ∧ (∃ y32, y33 = Sum.inr y32 ∧ ((0 : Int) < a.1 ∧ let found26 := (y32 % a.1); (∃ y30, atI s4 (2 : Int) = some y30 ∧ (∃ y29, y30 = Sum.inr y29 ∧ (CDiv y29 a.1 ∧ (∃ n31, ixN s4.length (2 : Int) = some n31 ∧ let s28 := (s4.set n31 ((Sum.inr ((y29 / a.1))))); k found26 s28))))))) else let __n := (); (∃ y41, atI s4 (3 : Int) = some y41 ∧ (∃ y40, y41 = Sum.inr y40 ∧ (∃ n42, ixN s4.length (3 : Int) = some n42 ∧ let s34 := (s4.set n42 ((Sum.inr ((y40 + (1 : Int)))))); (∃ y36, atI s34 (4 : Int) = some y36 ∧ (∃ y35, y36 = Sum.inr y35 ∧ (∃ y38, atI s34 (3 : Int) = some y38 ∧ (∃ y37, y38 = Sum.inr y37 ∧ m__law_mix (y35, (y37 + (1063 : Int)), ()) () (fun r39 _ => ((0 : Int) < a.1 ∧ k ((r39 % a.1)) s34)))))))))))))
abbrev sp__law_next (K : PySem.W.Frag) : Sp := SpF Addr (fun ad (a : Int × Unit) => [fz pA ad, fz pI a.1]) (resL (pS (pL K pI) pI)) (fz pI) m__law_next
theorem sc__law_next : FnScope ["deck", "many", "cell", "found"] ["deck", "many"] (defScope s__law_next) := ⟨rfl, rfl, rfl, by decide +kernel, rfl, by decide +kernel, by decide +kernel⟩
theorem ok__law_next  {f : Addr} {fd : FuncData} (F : Fun K "_law_next" "_law_next" s__law_next f fd) (B : Bl mg)  (h__law_mix : Has P w K mg base "_law_mix" 1 ["cell", "k"] (sp__law_mix K)) : FnOk P w K mg base CX0 2 f fd ["deck", "many"] (sp__law_next K) :=
  fn_ok F sc__law_next (fun _ _ => rfl) (fun M ad a s0 HI F0 R => XSs.conv (
    xs_ifj (fun (z23 : Unit) => [some (fz pA ad), some (fz pI a.1), none, none]) (xt_w (xw_and (xt_cmp (xc_eq dI (xe_ofR (xe_resIx foc_id (i := 0) rfl (xe_int))) (fun _ => xe_int))) (fun _ => xw_and1 (xt_cmp (xc_lt (xe_ofR (xe_resIx foc_id (i := 0) rfl (xe_int))) (fun _ => xe_lenL B.len_ (xe_ofL (xe_resIx foc_id (i := 0) rfl (xe_int))))))))) (fun kj1 s2 => xs_set 2 (xe_ixL (xe_ofL (xe_resIx foc_id (i := 0) rfl (xe_int))) (fun _ => xe_ofR (xe_resIx foc_id (i := 0) rfl (xe_int)))) (fun cell5 s6 => xs_resSet foc_id (i := 0) rfl (xe_toR (ra := (pL K pI)) (xe_add (xe_ofR (xe_resIx foc_id (i := 0) rfl (xe_int))) (fun _ => xe_int))) (fun _ => xe_int) (fun s7 => xs_if (xt_cmp (xc_lt (xe_var (i := 2) rfl) (fun _ => xe_pow (xe_int) (fun _ => xe_int)))) (fun _ s8 => xs_ret (Same.refl _) (xe_mod (xe_call h__law_mix () foc_emp (xa_cons (xe_var (i := 2) rfl) (fun _ => xa_cons (xe_ofR (xe_resIx foc_id (i := 0) rfl (xe_int))) (fun _ => xa_nil)))) (fun _ => xe_var (i := 1) rfl))) (fun s9 => xs_resSet foc_id (i := 0) rfl (xe_toR (ra := (pL K pI)) (xe_var (i := 2) rfl)) (fun _ => xe_int) (fun s13 => xs_nil () (.keep (.keep (.drop (.drop .nil))))))))) (fun kj1 s3 => xs_nil () (.keep (.keep (.drop (.drop .nil))))) (fun z23 s4 => xs_if (xt_cmp (xc_gt (xe_ofR (xe_resIx foc_id (i := 0) rfl (xe_int))) (fun _ => xe_int))) (fun _ s24 => xs_set 3 (xe_mod (xe_ofR (xe_resIx foc_id (i := 0) rfl (xe_int))) (fun _ => xe_var (i := 1) rfl)) (fun found26 s27 => xs_resSet foc_id (i := 0) rfl (xe_toR (ra := (pL K pI)) (xe_fdiv (xe_ofR (xe_resIx foc_id (i := 0) rfl (xe_int))) (fun _ => xe_var (i := 1) rfl))) (fun _ => xe_int) (fun s28 => xs_ret (Same.refl _) (xe_var (i := 3) rfl)))) (fun s25 => xs_resSet foc_id (i := 0) rfl (xe_toR (ra := (pL K pI)) (xe_add (xe_ofR (xe_resIx foc_id (i := 0) rfl (xe_int))) (fun _ => xe_int))) (fun _ => xe_int) (fun s34 => xs_ret (Same.refl _) (xe_mod (xe_call h__law_mix () foc_emp (xa_cons (xe_ofR (xe_resIx foc_id (i := 0) rfl (xe_int))) (fun _ => xa_cons (xe_add (xe_ofR (xe_resIx foc_id (i := 0) rfl (xe_int))) (fun _ => xe_int)) (fun _ => xa_nil)))) (fun _ => xe_var (i := 1) rfl)))))
    ) (by exact fun h => h))
theorem mix_any (c k : Int) (hk : -(2 ^ 64) < k ∧ k < 2 ^ 64) (C : Int → Unit → Prop) (h : ∀ r, C r ()) : m__law_mix (c, k, ()) () C := by
  have e1 := Int.emod_nonneg (((c % 2147483629 + 1000003 * k * k) + 7919 * k)) (by decide : (2147483629 : Int) ≠ 0)
  have e2 := Int.emod_lt_of_pos (((c % 2147483629 + 1000003 * k * k) + 7919 * k)) (by decide : (0 : Int) < 2147483629)
  refine ⟨by decide, .inr hk, .inr hk, .inr hk, by decide, .inr ?_, by decide, .inl ?_, by decide, ⟨by decide, by decide⟩, h _⟩
  · dsimp only; omega
  · dsimp only
    have e1 := Int.emod_nonneg (((c % 2147483629 + 1000003 * k * k) + 7919 * k) % 2147483629 * (((c % 2147483629 + 1000003 * k * k) + 7919 * k) % 2147483629)) (by decide : (2147483587 : Int) ≠ 0)
    have e2 := Int.emod_lt_of_pos (((c % 2147483629 + 1000003 * k * k) + 7919 * k) % 2147483629 * (((c % 2147483629 + 1000003 * k * k) + 7919 * k) % 2147483629)) (by decide : (0 : Int) < 2147483587)
    omega
theorem next_abs (x : Int × Unit) (n : Nat) (C : Int → Nat → Prop) (h : nextD x n C) : ∀ s, deckI n s → m__law_next x s fun y s' => ∃ n', deckI n' s' ∧ C y n' := by
  obtain ⟨m, u⟩ := x
  obtain ⟨m0, m1, hn, h⟩ := h
  dsimp only at m0 m1 h
  rintro s ⟨cells, i, rest, cnt, tot, rfl, hc, i0, i1, c0, c1⟩
  have hm : ∀ r : Int, 0 ≤ r % m ∧ r % m < m := fun r => ⟨Int.emod_nonneg _ (by omega), Int.emod_lt_of_pos _ m0⟩
  refine jn_by (fun (_ : Unit) s => ∃ i rest, 0 ≤ i ∧ i ≤ 63 ∧ s = [.inl cells, .inr i, .inr rest, .inr cnt, .inr tot]) ?_ ?_
  · intro kj hk
    refine jn_by (fun b s => s = [.inl cells, .inr i, .inr rest, .inr cnt, .inr tot] ∧ (b = true → i < cells.length)) ?_ ?_
    · intro kj' hk'
      refine ⟨_, rfl, _, rfl, ?_⟩
      split
      · exact ⟨_, rfl, _, rfl, _, rfl, _, rfl, hk' _ _ ⟨rfl, fun q => of_decide_eq_true q⟩⟩
      · exact hk' _ _ ⟨rfl, fun q => by cases q⟩
    · rintro b s ⟨rfl, hb⟩
      split
      · rename_i hb'
        have hi := hb hb'
        obtain ⟨j, rfl⟩ := Int.eq_ofNat_of_zero_le i0
        have hj : j < cells.length := by omega
        refine ⟨_, rfl, _, rfl, _, rfl, _, rfl, cells[j]'hj, ?_, _, rfl, _, rfl, 1, rfl, ?_⟩
        · exact atI_nat hj
        refine ⟨⟨by decide, by decide, by decide⟩, ?_⟩
        split
        · refine ⟨_, rfl, _, rfl, mix_any _ _ ⟨by omega, by omega⟩ _ fun r => ⟨m0, _, ⟨cells, (j : Int) + 1, rest, cnt, tot, rfl, hc, by omega, by omega, c0, by omega⟩, h _ (hm r).1 (hm r).2⟩⟩
        · exact ⟨2, rfl, hk _ _ ⟨(j : Int) + 1, cells[j], by omega, by omega, rfl⟩⟩
      · exact hk _ _ ⟨i, rest, i0, i1, rfl⟩
  · rintro u s ⟨i, rest, i0, i1, rfl⟩
    refine ⟨_, rfl, _, rfl, ?_⟩
    split
    · exact ⟨_, rfl, _, rfl, m0, _, rfl, _, rfl, ⟨m0, by omega⟩, 2, rfl, _, ⟨cells, i, rest / m, cnt, tot, rfl, hc, i0, i1, c0, by omega⟩, h _ (hm rest).1 (hm rest).2⟩
    · exact ⟨_, rfl, _, rfl, 3, rfl, _, rfl, _, rfl, _, rfl, _, rfl, mix_any _ _ ⟨by omega, by omega⟩ _ fun r => ⟨m0, _, ⟨cells, i, rest, cnt + 1, tot, rfl, hc, i0, i1, by omega, by omega⟩, h _ (hm r).1 (hm r).2⟩⟩
def m__law_bits : Unit → Nat → (Int → Nat → Prop) → Prop := fun a s0 k =>
  nextD ((6 : Int), ()) s0 (fun r2 s3 => nextD ((3 : Int), ()) s3 (fun r4 s5 => nextD ((3 : Int), ()) s5 (fun r6 s7 => (∃ y1, atI ([((1 : Int) + r2), (6 : Int), ((1 : Int) + r4)]) r6 = some y1 ∧ k y1 s7))))
abbrev sp__law_bits (K : PySem.W.Frag) : Sp := SpF Addr (fun ad (a : Unit) => [fz pA ad]) (deckN K) (fz pI) m__law_bits
theorem sc__law_bits : FnScope ["deck"] ["deck"] (defScope s__law_bits) := ⟨rfl, rfl, rfl, by decide +kernel, rfl, by decide +kernel, by decide +kernel⟩
theorem ok__law_bits  {f : Addr} {fd : FuncData} (F : Fun K "_law_bits" "_law_bits" s__law_bits f fd) (B : Bl mg)  (h__law_next : Has P w K mg base "_law_next" 2 ["deck", "many"] (spNext K)) : FnOk P w K mg base CX0 3 f fd ["deck"] (sp__law_bits K) :=
  fn_ok F sc__law_bits (fun _ _ => rfl) (fun M ad a s0 HI F0 R => XSs.conv (
    xs_ret (Same.refl _) (xe_ixL (xe_fr (xe_lst (ra := pI) (xl_cons (xe_add (xe_int) (fun _ => xe_call h__law_next ad foc_id (xa_adr (i := 0) rfl (fun _ => xa_cons (xe_int) (fun _ => xa_nil))))) (fun _ => xl_cons (xe_int) (fun _ => xl_cons (xe_add (xe_int) (fun _ => xe_call h__law_next ad foc_id (xa_adr (i := 0) rfl (fun _ => xa_cons (xe_int) (fun _ => xa_nil))))) (fun _ => xl_nil)))))) (fun _ => xe_call h__law_next ad foc_id (xa_adr (i := 0) rfl (fun _ => xa_cons (xe_int) (fun _ => xa_nil)))))
    ) (by exact fun h => h))
def m__law_face : Int × Unit → Nat → (Text → Nat → Prop) → Prop := fun a s0 k =>
  nextD ((5 : Int), ()) s0 (fun r14 s15 => (∃ y13, atI ([[48, 49, 42], [48, 49], [42], [48, 49, 48, 49, 48, 49, 48, 49, 42], [48, 49, 42, 42, 42, 42]]) r14 = some y13 ∧ ((-(2 ^ 62) ≤ a.1 ∧ a.1 < 2 ^ 62) ∧ (((rg 0 a.1.toNat)).length ≤ sizeLine ∧ compW (fun k5 s6 k8 => (y13.length ≤ sizeLine ∧ nextD ((y13.length : Int), ()) s6 (fun r10 s11 => (y13.length ≤ sizeLine ∧ ∃ c9, atI y13 r10 = some c9 ∧ k8 (some ([c9])) s11)))) (fun ys12 s7 => ((ys12.map (·.length)).sum + ys12.length * ([] : Text).length ≤ 16777216 ∧ k ((joinT ([] : Text) ys12)) s7)) ((rg 0 a.1.toNat)) s15 []))))
abbrev sp__law_face (K : PySem.W.Frag) : Sp := SpF Addr (fun ad (a : Int × Unit) => [fz pA ad, fz pI a.1]) (deckN K) (fz pT) m__law_face
theorem sc__law_face : FnScope ["deck", "bits", "way", "signs", "k"] ["deck", "bits"] (defScope s__law_face) := ⟨rfl, rfl, rfl, by decide +kernel, rfl, by decide +kernel, by decide +kernel⟩
theorem ok__law_face  {f : Addr} {fd : FuncData} (F : Fun K "_law_face" "_law_face" s__law_face f fd) (B : Bl mg)  (h__law_next : Has P w K mg base "_law_next" 2 ["deck", "many"] (spNext K)) : FnOk P w K mg base CX0 3 f fd ["deck", "bits"] (sp__law_face K) :=
  fn_ok F sc__law_face (fun _ _ => rfl) (fun M ad a s0 HI F0 R => XSs.conv (
    xs_set 2 (xe_call h__law_next ad foc_id (xa_adr (i := 0) rfl (fun _ => xa_cons (xe_int) (fun _ => xa_nil)))) (fun way1 s2 => xs_set 3 (xe_ixL (xe_fr (xe_lst (ra := pT) (xl_cons (xe_str [48, 49, 42]) (fun _ => xl_cons (xe_str [48, 49]) (fun _ => xl_cons (xe_str [42]) (fun _ => xl_cons (xe_str [48, 49, 48, 49, 48, 49, 48, 49, 42]) (fun _ => xl_cons (xe_str [48, 49, 42, 42, 42, 42]) (fun _ => xl_nil)))))))) (fun _ => xe_var (i := 2) rfl)) (fun signs3 s4 => xs_ret (Same.refl _) (xe_joinL (xe_str ([] : Text)) (fun _ => xe_fr (xe_lc [("k", 4)] (xi_range1 B.range_ (xe_var (i := 1) rfl)) (xg_name 4) (fun k5 s6 => xe_ixT (xe_var (i := 3) rfl) (fun _ => xe_call h__law_next ad foc_id (xa_adr (i := 0) rfl (fun _ => xa_cons (xe_lenT B.len_ (xe_var (i := 3) rfl)) (fun _ => xa_nil))))))))))
    ) (by exact fun h => h))
def m__law_all : Int × Unit → Unit → ((List Text) → Unit → Prop) → Prop := fun a s0 k =>
  let found1 := ([] : List Text); (CPow (1 : Int) a.1 ∧ ((-(2 ^ 62) ≤ ((1 : Int) * 2 ^ (a.1 : Int).toNat) ∧ ((1 : Int) * 2 ^ (a.1 : Int).toNat) < 2 ^ 62) ∧ forB (fun number6 (c3 : (List Text)) s7 kn8 kb9 => ((-(2 ^ 62) ≤ a.1 ∧ a.1 < 2 ^ 62) ∧ (((rg 0 a.1.toNat)).length ≤ sizeLine ∧ compW (fun k12 s13 k15 => ((0 : Int) ≤ ((a.1 - (1 : Int)) - k12) ∧ (((Builtin.bitAnd ((number6 / 2 ^ (((a.1 - (1 : Int)) - k12) : Int).toNat)) (1 : Int)) : Int).natAbs.log2 < 1920 ∧ k15 (some ((strI ((Builtin.bitAnd ((number6 / 2 ^ (((a.1 - (1 : Int)) - k12) : Int).toNat)) (1 : Int)))))) s13))) (fun ys17 s14 => ((ys17.map (·.length)).sum + ys17.length * ([] : Text).length ≤ 16777216 ∧ (c3.length < sizeLine ∧ let found16 := (c3 ++ [(joinT ([] : Text) ys17)]); kn8 found16 s14))) ((rg 0 a.1.toNat)) s7 []))) (fun c18 s19 => k c18 s19) ((rg 0 (((1 : Int) * 2 ^ (a.1 : Int).toNat)).toNat)) found1 s0))
abbrev sp__law_all (K : PySem.W.Frag) : Sp := SpF Unit (fun ad (a : Int × Unit) => [fz pI a.1]) (fun _ _ => emp) (fz (pL K pT)) m__law_all
theorem sc__law_all : FnScope ["bits", "found", "number", "k"] ["bits"] (defScope s__law_all) := ⟨rfl, rfl, rfl, by decide +kernel, rfl, by decide +kernel, by decide +kernel⟩
theorem ok__law_all  {f : Addr} {fd : FuncData} (F : Fun K "_law_all" "_law_all" s__law_all f fd) (B : Bl mg)   : FnOk P w K mg base CX0 1 f fd ["bits"] (sp__law_all K) :=
  fn_ok F sc__law_all (fun _ _ => rfl) (fun M ad a s0 HI F0 R => XSs.conv (
    xs_set 1 (xe_lst (ra := pT) (xl_nil)) (fun found1 s2 => xs_for (fun (c3 : (List Text)) => [some (fz pI a.1), some (ol pT c3), none, none]) found1 (xi_range1 B.range_ (xe_shl (xe_int) (fun _ => xe_var (i := 0) rfl))) (xg_name 2) (.keep (.keep (.drop (.drop .nil)))) (fun F4 e5 number6 c3 kn8 kb9 s7 => xs_append 1 rfl (xe_joinL (xe_str ([] : Text)) (fun _ => xe_fr (xe_lc [("k", 3)] (xi_range1 B.range_ (xe_var (i := 0) rfl)) (xg_name 3) (fun k12 s13 => xe_strI B.str_ (xe_band (xe_shr (xe_var (i := 2) rfl) (fun _ => xe_sub (xe_sub (xe_var (i := 0) rfl) (fun _ => xe_int)) (fun _ => xe_var (i := 3) rfl))) (fun _ => xe_int)))))) (fun y10 s11 => xs_nil (c3 ++ [y10]) (.keep (.keep (.drop (.drop .nil)))))) (fun c18 s19 => xs_freeze 1 rfl (xs_ret (Same.refl _) (xe_var (i := 1) rfl))))
    ) (by exact fun h => h))
def m__law_lies : Text × Text × Unit → Unit → (Bool → Unit → Prop) → Prop := fun a s0 k =>
  (a.1.length ≤ sizeLine ∧ ((-(2 ^ 62) ≤ (a.1.length : Int) ∧ (a.1.length : Int) < 2 ^ 62) ∧ forB (fun k4 (c1 : Unit) s5 kn6 kb7 => jn (fun k10 => (a.1.length ≤ sizeLine ∧ ∃ c13, atI a.1 k4 = some c13 ∧ (if (!eqB ([c13]) ([42])) = true then (a.1.length ≤ sizeLine ∧ ∃ c14, atI a.1 k4 = some c14 ∧ (a.2.1.length ≤ sizeLine ∧ ∃ c15, atI a.2.1 k4 = some c15 ∧ k10 ((!eqB ([c14]) ([c15]))) s5)) else k10 false s5))) (fun b11 s12 => (if b11 = true then let __n := (); k false s12 else let __n := (); kn6 (()) s12))) (fun c16 s17 => k true s17) ((rg 0 ((a.1.length : Int)).toNat)) (()) s0))
abbrev sp__law_lies (K : PySem.W.Frag) : Sp := SpF Unit (fun ad (a : Text × Text × Unit) => [fz pT a.1, fz pT a.2.1]) (fun _ _ => emp) (fz pB) m__law_lies
theorem sc__law_lies : FnScope ["face", "corner", "k"] ["face", "corner"] (defScope s__law_lies) := ⟨rfl, rfl, rfl, by decide +kernel, rfl, by decide +kernel, by decide +kernel⟩
theorem ok__law_lies  {f : Addr} {fd : FuncData} (F : Fun K "_law_lies" "_law_lies" s__law_lies f fd) (B : Bl mg)   : FnOk P w K mg base CX0 1 f fd ["face", "corner"] (sp__law_lies K) :=
  fn_ok F sc__law_lies (fun _ _ => rfl) (fun M ad a s0 HI F0 R => XSs.conv (
    xs_for (fun (c1 : Unit) => [some (fz pT a.1), some (fz pT a.2.1), none]) () (xi_range1 B.range_ (xe_lenT B.len_ (xe_var (i := 0) rfl))) (xg_name 2) (.keep (.keep (.drop .nil))) (fun F2 e3 k4 c1 kn6 kb7 s5 => xs_if (xt_w (xw_and (xt_cmp (xc_ne dT (xe_ixT (xe_var (i := 0) rfl) (fun _ => xe_var (i := 2) rfl)) (fun _ => xe_str [42]))) (fun _ => xw_and1 (xt_cmp (xc_ne dT (xe_ixT (xe_var (i := 0) rfl) (fun _ => xe_var (i := 2) rfl)) (fun _ => xe_ixT (xe_var (i := 1) rfl) (fun _ => xe_var (i := 2) rfl))))))) (fun _ s8 => xs_ret e3 (xe_bl)) (fun s9 => xs_nil () (.keep (.keep (.drop .nil))))) (fun c16 s17 => xs_ret (Same.refl _) (xe_bl))
    ) (by exact fun h => h))
def m__law_set : Int × Unit → Nat → ((Int × (List Text)) → Nat → Prop) → Prop := fun a s0 k =>
  m__law_all (a.1, ()) () (fun r70 _ => nextD ((8 : Int), ()) s0 (fun r68 s69 => (CPow (10 : Int) (6 : Int) ∧ (CPow (10 : Int) (6 : Int) ∧ (∃ y67, atI ([(1 : Int), ((10 : Int) ^ ((6 : Int) : Int).toNat), ((10 : Int) ^ ((6 : Int) : Int).toNat), (2 : Int), (8 : Int), (2 : Int), (3 : Int), (4 : Int)]) r68 = some y67 ∧ (r70.length ≤ sizeLine ∧ compW (fun corner7 s8 k10 => nextD (y67, ()) s8 (fun r64 s65 => (if (eqB r64 (0 : Int)) = true then k10 (some corner7) s65 else k10 none s65))) (fun ys66 s9 => jn (fun (kj13 : (List Text) → _ → Prop) => (if (eqB r68 (2 : Int)) = true then let __ := (); nextD ((r70.length : Int), ()) s9 (fun r20 s21 => (∃ y19, atI r70 r20 = some y19 ∧ let found17 := [y19]; kj13 found17 s21)) else let __ := (); kj13 ys66 s9)) (fun z22 s16 => jn (fun (kj23 : (List Text) → _ → Prop) => (if (eqB r68 (4 : Int)) = true then let __ := (); (r70.length ≤ sizeLine ∧ compW (fun corner27 s28 k30 => (if (!memB corner27 z22) = true then k30 (some corner27) s28 else k30 none s28)) (fun ys33 s29 => kj23 ys33 s29) r70 s16 []) else let __ := (); kj23 z22 s16)) (fun z34 s26 => jn (fun (kj35 : (List Text) → _ → Prop) => (if (decide ((5 : Int) < r68)) = true then let __ := (); nextD ((4 : Int), ()) s26 (fun r61 s62 => ((-(2 ^ 62) ≤ ((1 : Int) + r61) ∧ ((1 : Int) + r61) < 2 ^ 62) ∧ (((rg 0 (((1 : Int) + r61)).toNat)).length ≤ sizeLine ∧ compW (fun k39 s40 k42 => m__law_face (a.1, ()) s40 (fun r58 s59 => k42 (some r58) s59)) (fun ys60 s41 => (r70.length ≤ sizeLine ∧ compW (fun corner45 s50 k52 => (ys60.length ≤ sizeLine ∧ compW (fun face46 s47 k49 => m__law_lies (face46, corner45, ()) () (fun r55 _ => (if r55 = true then k49 (some face46) s47 else k49 none s47))) (fun ys56 s48 => (if (!eqB ys56 (([] : List Text))) = true then k52 (some corner45) s48 else k52 none s48)) ys60 s50 [])) (fun ys57 s51 => kj35 ys57 s51) r70 s41 [])) ((rg 0 (((1 : Int) + r61)).toNat)) s62 []))) else let __ := (); kj35 z34 s26)) (fun z63 s38 => k ((a.1, z63)) s38)))) r70 s69 []))))))
abbrev sp__law_set (K : PySem.W.Frag) : Sp := SpF Addr (fun ad (a : Int × Unit) => [fz pA ad, fz pI a.1]) (deckN K) (fz (pP K pI (pU K pT))) m__law_set
theorem sc__law_set : FnScope ["deck", "bits", "every", "way", "often", "found", "corner", "faces", "k", "face"] ["deck", "bits"] (defScope s__law_set) := ⟨rfl, rfl, rfl, by decide +kernel, rfl, by decide +kernel, by decide +kernel⟩
theorem ok__law_set  {f : Addr} {fd : FuncData} (F : Fun K "_law_set" "_law_set" s__law_set f fd) (B : Bl mg)  (h__law_all : Has P w K mg base "_law_all" 1 ["bits"] (sp__law_all K)) (h__law_next : Has P w K mg base "_law_next" 2 ["deck", "many"] (spNext K)) (h__law_face : Has P w K mg base "_law_face" 3 ["deck", "bits"] (sp__law_face K)) (h__law_lies : Has P w K mg base "_law_lies" 1 ["face", "corner"] (sp__law_lies K)) : FnOk P w K mg base CX0 4 f fd ["deck", "bits"] (sp__law_set K) :=
  fn_ok F sc__law_set (fun _ _ => rfl) (fun M ad a s0 HI F0 R => XSs.conv (
    xs_set 2 (xe_call h__law_all () foc_emp (xa_cons (xe_var (i := 1) rfl) (fun _ => xa_nil))) (fun every1 s2 => xs_set 3 (xe_call h__law_next ad foc_id (xa_adr (i := 0) rfl (fun _ => xa_cons (xe_int) (fun _ => xa_nil)))) (fun way3 s4 => xs_set 4 (xe_ixL (xe_fr (xe_lst (ra := pI) (xl_cons (xe_int) (fun _ => xl_cons (xe_pow (xe_int) (fun _ => xe_int)) (fun _ => xl_cons (xe_pow (xe_int) (fun _ => xe_int)) (fun _ => xl_cons (xe_int) (fun _ => xl_cons (xe_int) (fun _ => xl_cons (xe_int) (fun _ => xl_cons (xe_int) (fun _ => xl_cons (xe_int) (fun _ => xl_nil))))))))))) (fun _ => xe_var (i := 3) rfl)) (fun often5 s6 => xs_set 5 (xe_fr (xe_lcif [("corner", 6)] (xi_list (xe_var (i := 2) rfl)) (xg_name 6) (fun corner7 s8 => xts_one (xt_cmp (xc_eq dI (xe_call h__law_next ad foc_id (xa_adr (i := 0) rfl (fun _ => xa_cons (xe_var (i := 4) rfl) (fun _ => xa_nil)))) (fun _ => xe_int)))) (fun corner7 s8 => xe_var (i := 6) rfl))) (fun found11 s12 => xs_ifj (fun (z22 : (List Text)) => [some (fz pA ad), some (fz pI a.1), some (fz (pL K pT) every1), some (fz pI way3), some (fz pI often5), some (fz (pL K pT) z22), none, none, none, none]) (xt_cmp (xc_eq dI (xe_var (i := 3) rfl) (fun _ => xe_int))) (fun kj13 s14 => xs_set 5 (xe_fr (xe_lst (ra := pT) (xl_cons (xe_ixL (xe_var (i := 2) rfl) (fun _ => xe_call h__law_next ad foc_id (xa_adr (i := 0) rfl (fun _ => xa_cons (xe_lenL B.len_ (xe_var (i := 2) rfl)) (fun _ => xa_nil))))) (fun _ => xl_nil)))) (fun found17 s18 => xs_nil found17 (.keep (.keep (.keep (.keep (.keep (.keep (.drop (.drop (.drop (.drop .nil)))))))))))) (fun kj13 s15 => xs_nil found11 (.keep (.keep (.keep (.keep (.keep (.keep (.drop (.drop (.drop (.drop .nil))))))))))) (fun z22 s16 => xs_ifj (fun (z34 : (List Text)) => [some (fz pA ad), some (fz pI a.1), some (fz (pL K pT) every1), some (fz pI way3), some (fz pI often5), some (fz (pL K pT) z34), none, none, none, none]) (xt_cmp (xc_eq dI (xe_var (i := 3) rfl) (fun _ => xe_int))) (fun kj23 s24 => xs_set 5 (xe_fr (xe_lcif [("corner", 6)] (xi_list (xe_var (i := 2) rfl)) (xg_name 6) (fun corner27 s28 => xts_one (xt_cmp (xc_ninL fT (xe_var (i := 6) rfl) (fun _ => xe_var (i := 5) rfl)))) (fun corner27 s28 => xe_var (i := 6) rfl))) (fun found31 s32 => xs_nil found31 (.keep (.keep (.keep (.keep (.keep (.keep (.drop (.drop (.drop (.drop .nil)))))))))))) (fun kj23 s25 => xs_nil z22 (.keep (.keep (.keep (.keep (.keep (.keep (.drop (.drop (.drop (.drop .nil))))))))))) (fun z34 s26 => xs_ifj (fun (z63 : (List Text)) => [some (fz pA ad), some (fz pI a.1), some (fz (pL K pT) every1), some (fz pI way3), some (fz pI often5), some (fz (pL K pT) z63), none, none, none, none]) (xt_cmp (xc_gt (xe_var (i := 3) rfl) (fun _ => xe_int))) (fun kj35 s36 => xs_set 7 (xe_fr (xe_lc [("k", 8)] (xi_range1 B.range_ (xe_add (xe_int) (fun _ => xe_call h__law_next ad foc_id (xa_adr (i := 0) rfl (fun _ => xa_cons (xe_int) (fun _ => xa_nil)))))) (xg_name 8) (fun k39 s40 => xe_call h__law_face ad foc_id (xa_adr (i := 0) rfl (fun _ => xa_cons (xe_var (i := 1) rfl) (fun _ => xa_nil)))))) (fun faces43 s44 => xs_set 5 (xe_fr (xe_lcif [("corner", 6)] (xi_list (xe_var (i := 2) rfl)) (xg_name 6) (fun corner45 s50 => xts_one (xt_cmp (xc_ne (dL dT) (xe_fr (xe_lcif [("face", 9)] (xi_list (xe_var (i := 7) rfl)) (xg_name 9) (fun face46 s47 => xts_one (xt_val (xe_call h__law_lies () foc_emp (xa_cons (xe_var (i := 9) rfl) (fun _ => xa_cons (xe_var (i := 6) rfl) (fun _ => xa_nil)))))) (fun face46 s47 => xe_var (i := 9) rfl))) (fun _ => xe_fr (xe_lst (ra := pT) (xl_nil)))))) (fun corner45 s50 => xe_var (i := 6) rfl))) (fun found53 s54 => xs_nil found53 (.keep (.keep (.keep (.keep (.keep (.keep (.drop (.drop (.drop (.drop .nil))))))))))))) (fun kj35 s37 => xs_nil z34 (.keep (.keep (.keep (.keep (.keep (.keep (.drop (.drop (.drop (.drop .nil))))))))))) (fun z63 s38 => xs_ret (Same.refl _) (xe_tup2 (xe_var (i := 1) rfl) (fun _ => xe_tupL B.tuple_ (xe_var (i := 5) rfl))))))))))
    ) (by exact fun h => h))
def m__law_sorted : (List Text) × Unit → Unit → ((List Text) → Unit → Prop) → Prop := fun a s0 k =>
  (a.1.length ≤ sizeLine ∧ compW (fun face1 s6 k8 => (((sgs face1)).length ≤ sizeLine ∧ compW (fun sign2 s3 k5 => k5 (some ((findT ([48, 49, 42]) sign2))) s3) (fun ys14 s4 => k8 (some ((ys14, face1))) s4) ((sgs face1)) s6 [])) (fun ys15 s7 => (((srtE (eP (eL eI) eT) ys15)).length ≤ sizeLine ∧ compW (fun order9 s10 k12 => k12 (some order9.2) s10) (fun ys13 s11 => k ys13 s11) ((srtE (eP (eL eI) eT) ys15)) s7 [])) a.1 s0 [])
abbrev sp__law_sorted (K : PySem.W.Frag) : Sp := SpF Unit (fun ad (a : (List Text) × Unit) => [fz (pL K pT) a.1]) (fun _ _ => emp) (fz (pU K pT)) m__law_sorted
theorem sc__law_sorted : FnScope ["faces", "order", "face", "sign"] ["faces"] (defScope s__law_sorted) := ⟨rfl, rfl, rfl, by decide +kernel, rfl, by decide +kernel, by decide +kernel⟩
theorem ok__law_sorted  {f : Addr} {fd : FuncData} (F : Fun K "_law_sorted" "_law_sorted" s__law_sorted f fd) (B : Bl mg)   : FnOk P w K mg base CX0 1 f fd ["faces"] (sp__law_sorted K) :=
  fn_ok F sc__law_sorted (fun _ _ => rfl) (fun M ad a s0 HI F0 R => XSs.conv (
    xs_ret (Same.refl _) (xe_tupL B.tuple_ (xe_fr (xe_lc [("order", 1), ("face", 2)] (xi_list (xe_fr (xe_sorted (dP (dL dI) dT) (sP (sL sI) sT) B.sorted_ (xe_fr (xe_lc [("face", 2)] (xi_list (xe_var (i := 0) rfl)) (xg_name 2) (fun face1 s6 => xe_tup2 (xe_fr (xe_lc [("sign", 3)] (xi_str (xe_var (i := 2) rfl)) (xg_name 3) (fun sign2 s3 => xe_find (xe_str [48, 49, 42]) (fun _ => xe_var (i := 3) rfl)))) (fun _ => xe_var (i := 2) rfl))))))) (xg_tup2 (xg_name 1) (xg_name 2)) (fun order9 s10 => xe_var (i := 2) rfl))))
    ) (by exact fun h => h))
def m__law_one_of : Text × Text × Unit → Unit → ((Option Text) → Unit → Prop) → Prop := fun a s0 k =>
  (a.1.length ≤ sizeLine ∧ ((-(2 ^ 62) ≤ (a.1.length : Int) ∧ (a.1.length : Int) < 2 ^ 62) ∧ (((rg 0 ((a.1.length : Int)).toNat)).length ≤ sizeLine ∧ compW (fun k1 s2 k4 => (a.1.length ≤ sizeLine ∧ ∃ c18, atI a.1 k1 = some c18 ∧ (a.2.1.length ≤ sizeLine ∧ ∃ c19, atI a.2.1 k1 = some c19 ∧ (if (!eqB ([c18]) ([c19])) = true then k4 (some k1) s2 else k4 none s2)))) (fun ys20 s3 => jn (fun k11 => (if (!eqB ((ys20.length : Int)) (1 : Int)) = true then k11 true s3 else (∃ y15, atI ys20 (0 : Int) = some y15 ∧ (a.1.length ≤ sizeLine ∧ ∃ c14, atI a.1 y15 = some c14 ∧ (∃ y17, atI ys20 (0 : Int) = some y17 ∧ (a.2.1.length ≤ sizeLine ∧ ∃ c16, atI a.2.1 y17 = some c16 ∧ k11 ((!eqB ((srtE eT ([[c14], [c16]]))) ([[48], [49]]))) s3)))))) (fun b12 s13 => (if b12 = true then let __n := (); k none s13 else let __n := (); (∃ y9, atI ys20 (0 : Int) = some y9 ∧ (a.1.length ≤ sizeLine ∧ (((cutG a.1 none (some y9))).length + ([42]).length ≤ sizeLine ∧ (∃ y10, atI ys20 (0 : Int) = some y10 ∧ (a.1.length ≤ sizeLine ∧ ((((cutG a.1 none (some y9)) ++ [42])).length + ((cutG a.1 (some ((y10 + (1 : Int)))) none)).length ≤ sizeLine ∧ k ((some ((((cutG a.1 none (some y9)) ++ [42]) ++ (cutG a.1 (some ((y10 + (1 : Int)))) none))))) s13))))))))) ((rg 0 ((a.1.length : Int)).toNat)) s0 [])))
abbrev sp__law_one_of (K : PySem.W.Frag) : Sp := SpF Unit (fun ad (a : Text × Text × Unit) => [fz pT a.1, fz pT a.2.1]) (fun _ _ => emp) (fz (pO pT)) m__law_one_of
theorem sc__law_one_of : FnScope ["one", "other", "unlike", "k"] ["one", "other"] (defScope s__law_one_of) := ⟨rfl, rfl, rfl, by decide +kernel, rfl, by decide +kernel, by decide +kernel⟩
theorem ok__law_one_of  {f : Addr} {fd : FuncData} (F : Fun K "_law_one_of" "_law_one_of" s__law_one_of f fd) (B : Bl mg)   : FnOk P w K mg base CX0 1 f fd ["one", "other"] (sp__law_one_of K) :=
  fn_ok F sc__law_one_of (fun _ _ => rfl) (fun M ad a s0 HI F0 R => XSs.conv (
    xs_setLc 2 [("k", 3)] (xi_range1 B.range_ (xe_lenT B.len_ (xe_var (i := 0) rfl))) (xg_name 3) (fun k1 s2 => xts_one (xt_cmp (xc_ne dT (xe_ixT (xe_var (i := 0) rfl) (fun _ => xe_var (i := 3) rfl)) (fun _ => xe_ixT (xe_var (i := 1) rfl) (fun _ => xe_var (i := 3) rfl))))) (fun k1 s2 => xe_var (i := 3) rfl) (fun unlike5 s6 => xs_freeze 2 rfl (xs_if (xt_w (xw_or (xt_cmp (xc_ne dI (xe_lenL B.len_ (xe_var (i := 2) rfl)) (fun _ => xe_int))) (fun _ => xw_or1 (xt_cmp (xc_ne (dL dT) (xe_fr (xe_sorted dT sT B.sorted_ (xe_fr (xe_lst (ra := pT) (xl_cons (xe_ixT (xe_var (i := 0) rfl) (fun _ => xe_ixL (xe_var (i := 2) rfl) (fun _ => xe_int))) (fun _ => xl_cons (xe_ixT (xe_var (i := 1) rfl) (fun _ => xe_ixL (xe_var (i := 2) rfl) (fun _ => xe_int))) (fun _ => xl_nil))))))) (fun _ => xe_fr (xe_lst (ra := pT) (xl_cons (xe_str [48]) (fun _ => xl_cons (xe_str [49]) (fun _ => xl_nil)))))))))) (fun _ s7 => xs_ret (Same.refl _) (xe_none (ra := pT) (xe_non))) (fun s8 => xs_ret (Same.refl _) (xe_some (xe_addT (xe_addT (xe_cutT (xe_var (i := 0) rfl) (fun _ => xo_none) (fun _ => xo_some (xe_ixL (xe_var (i := 2) rfl) (fun _ => xe_int)))) (fun _ => xe_str [42])) (fun _ => xe_cutT (xe_var (i := 0) rfl) (fun _ => xo_some (xe_add (xe_ixL (xe_var (i := 2) rfl) (fun _ => xe_int)) (fun _ => xe_int))) (fun _ => xo_none))) nn_T))))
    ) (by exact fun h => h))
def m__law_coarser : (List Text) × Int × Unit → Nat → ((List Text) → Nat → Prop) → Prop := fun a s0 k =>
  ((-(2 ^ 62) ≤ a.2.1 ∧ a.2.1 < 2 ^ 62) ∧ forB (fun turn6 (c3 : (List Text)) s7 kn8 kb9 => nextD (((c3.length : Int) + (if (eqB c3 (([] : List Text))) then 1 else 0 : Int)), ()) s7 (fun r43 s44 => ((-(2 ^ 62) ≤ (c3.length : Int) ∧ (c3.length : Int) < 2 ^ 62) ∧ (((rg 0 ((c3.length : Int)).toNat)).length ≤ sizeLine ∧ compW (fun k12 s13 k15 => (∃ y39, atI c3 r43 = some y39 ∧ (∃ y40, atI c3 k12 = some y40 ∧ m__law_one_of (y39, y40, ()) () (fun r41 _ => (if r41.isSome = true then k15 (some k12) s13 else k15 none s13))))) (fun ys42 s14 => jn (fun (kj18 : (List Text) → _ → Prop) => (if (!eqB ys42 (([] : List Int))) = true then let __ := (); nextD ((ys42.length : Int), ()) s14 (fun r36 s37 => (∃ y35, atI ys42 r36 = some y35 ∧ (((enI c3)).length ≤ sizeLine ∧ compW (fun k24 s25 k27 => (if (!memB k24.1 ([r43, y35])) = true then k27 (some k24.2) s25 else k27 none s25)) (fun ys30 s26 => (∃ y32, atI c3 r43 = some y32 ∧ (∃ y33, atI c3 y35 = some y33 ∧ m__law_one_of (y32, y33, ()) () (fun r34 _ => (∃ y31, r34 = some y31 ∧ (ys30.length + ([y31]).length ≤ sizeLine ∧ let found28 := (ys30 ++ [y31]); kj18 found28 s26)))))) ((enI c3)) s37 []))) else let __ := (); kj18 c3 s14)) (fun z38 s21 => kn8 z38 s21)) ((rg 0 ((c3.length : Int)).toNat)) s44 [])))) (fun c45 s46 => m__law_sorted (c45, ()) () (fun r47 _ => k r47 s46)) ((rg 0 a.2.1.toNat)) a.1 s0)
abbrev sp__law_coarser (K : PySem.W.Frag) : Sp := SpF Addr (fun ad (a : (List Text) × Int × Unit) => [fz pA ad, fz (pU K pT) a.1, fz pI a.2.1]) (deckN K) (fz (pU K pT)) m__law_coarser
theorem sc__law_coarser : FnScope ["deck", "faces", "times", "found", "turn", "at", "some", "k", "to", "face"] ["deck", "faces", "times"] (defScope s__law_coarser) := ⟨rfl, rfl, rfl, by decide +kernel, rfl, by decide +kernel, by decide +kernel⟩
theorem ok__law_coarser  {f : Addr} {fd : FuncData} (F : Fun K "_law_coarser" "_law_coarser" s__law_coarser f fd) (B : Bl mg)  (h__law_next : Has P w K mg base "_law_next" 2 ["deck", "many"] (spNext K)) (h__law_one_of : Has P w K mg base "_law_one_of" 1 ["one", "other"] (sp__law_one_of K)) (h__law_sorted : Has P w K mg base "_law_sorted" 1 ["faces"] (sp__law_sorted K)) : FnOk P w K mg base CX0 3 f fd ["deck", "faces", "times"] (sp__law_coarser K) :=
  fn_ok F sc__law_coarser (fun _ _ => rfl) (fun M ad a s0 HI F0 R => XSs.conv (
    xs_set 3 (xe_fr (xe_listU B.list_ (xe_var (i := 1) rfl))) (fun found1 s2 => xs_for (fun (c3 : (List Text)) => [some (fz pA ad), some (fz (pU K pT) a.1), some (fz pI a.2.1), some (fz (pL K pT) c3), none, none, none, none, none, none]) found1 (xi_range1 B.range_ (xe_var (i := 2) rfl)) (xg_name 4) (.keep (.keep (.keep (.keep (.drop (.drop (.drop (.drop (.drop (.drop .nil)))))))))) (fun F4 e5 turn6 c3 kn8 kb9 s7 => xs_set 5 (xe_call h__law_next ad foc_id (xa_adr (i := 0) rfl (fun _ => xa_cons (xe_add (xe_lenL B.len_ (xe_var (i := 3) rfl)) (fun _ => xe_intB B.int_ (xe_cmp (xc_eq (dL dT) (xe_var (i := 3) rfl) (fun _ => xe_fr (xe_lst (ra := pT) (xl_nil))))))) (fun _ => xa_nil)))) (fun at10 s11 => xs_setLc 6 [("k", 7)] (xi_range1 B.range_ (xe_lenL B.len_ (xe_var (i := 3) rfl))) (xg_name 7) (fun k12 s13 => xts_one (xt_cmp (xc_notN (xe_call h__law_one_of () foc_emp (xa_cons (xe_ixL (xe_var (i := 3) rfl) (fun _ => xe_var (i := 5) rfl)) (fun _ => xa_cons (xe_ixL (xe_var (i := 3) rfl) (fun _ => xe_var (i := 7) rfl)) (fun _ => xa_nil)))) (fun _ => xe_non)))) (fun k12 s13 => xe_var (i := 7) rfl) (fun some16 s17 => xs_freeze 6 rfl (xs_ifj (fun (z38 : (List Text)) => [some (fz pA ad), some (fz (pU K pT) a.1), some (fz pI a.2.1), some (fz (pL K pT) z38), some (fz pI turn6), some (fz pI at10), some (fz (pL K pI) some16), none, none, none]) (xt_cmp (xc_ne (dL dI) (xe_var (i := 6) rfl) (fun _ => xe_fr (xe_lst (ra := pI) (xl_nil))))) (fun kj18 s19 => xs_set 8 (xe_ixL (xe_var (i := 6) rfl) (fun _ => xe_call h__law_next ad foc_id (xa_adr (i := 0) rfl (fun _ => xa_cons (xe_lenL B.len_ (xe_var (i := 6) rfl)) (fun _ => xa_nil))))) (fun to22 s23 => xs_set 3 (xe_fr (xe_cat (xe_fr (xe_lcif [("k", 7), ("face", 9)] (xi_enum B.enumerate_ drw_L (xe_var (i := 3) rfl)) (xg_tup2 (xg_name 7) (xg_name 9)) (fun k24 s25 => xts_one (xt_cmp (xc_ninU fI (xe_var (i := 7) rfl) (fun _ => xe_tupU (ra := pI) (xl_cons (xe_var (i := 5) rfl) (fun _ => xl_cons (xe_var (i := 8) rfl) (fun _ => xl_nil))))))) (fun k24 s25 => xe_var (i := 9) rfl))) (fun _ => xe_fr (xe_lst (ra := pT) (xl_cons (xe_ofSome (xe_call h__law_one_of () foc_emp (xa_cons (xe_ixL (xe_var (i := 3) rfl) (fun _ => xe_var (i := 5) rfl)) (fun _ => xa_cons (xe_ixL (xe_var (i := 3) rfl) (fun _ => xe_var (i := 8) rfl)) (fun _ => xa_nil))))) (fun _ => xl_nil)))))) (fun found28 s29 => xs_nil found28 (.keep (.keep (.keep (.keep (.keep (.keep (.keep (.drop (.drop (.drop .nil))))))))))))) (fun kj18 s20 => xs_nil c3 (.keep (.keep (.keep (.keep (.keep (.keep (.keep (.drop (.drop (.drop .nil))))))))))) (fun z38 s21 => xs_nil z38 (.keep (.keep (.keep (.keep (.drop (.drop (.drop (.drop (.drop (.drop .nil))))))))))))))) (fun c45 s46 => xs_ret (Same.refl _) (xe_call h__law_sorted () foc_emp (xa_cons (xe_var (i := 3) rfl) (fun _ => xa_nil)))))
    ) (by exact fun h => h))
def m__law_numbers : Text × Unit → Unit → ((List Int) → Unit → Prop) → Prop := fun a s0 k =>
  let found1 := [(0 : Int)]; forB (fun sign6 (c3 : (List Int)) s7 kn8 kb9 => (c3.length ≤ sizeLine ∧ compW (fun number10 s11 k13 => (if (eqB sign6 ([42])) = true then (CMul (2 : Int) number10 ∧ k13 (some ((((2 : Int) * number10) + (1 : Int)))) s11) else k13 none s11)) (fun ys23 s12 => (c3.length ≤ sizeLine ∧ compW (fun number16 s17 k19 => (CMul (2 : Int) number16 ∧ k19 (some ((((2 : Int) * number16) + (if (eqB sign6 ([49])) then 1 else 0 : Int)))) s17)) (fun ys22 s18 => (ys22.length + ys23.length ≤ sizeLine ∧ let found20 := (ys22 ++ ys23); kn8 found20 s18)) c3 s12 [])) c3 s7 [])) (fun c24 s25 => k c24 s25) ((sgs a.1)) found1 s0
abbrev sp__law_numbers (K : PySem.W.Frag) : Sp := SpF Unit (fun ad (a : Text × Unit) => [fz pT a.1]) (fun _ _ => emp) (fz (pL K pI)) m__law_numbers
theorem sc__law_numbers : FnScope ["face", "found", "sign", "more", "number"] ["face"] (defScope s__law_numbers) := ⟨rfl, rfl, rfl, by decide +kernel, rfl, by decide +kernel, by decide +kernel⟩
theorem ok__law_numbers  {f : Addr} {fd : FuncData} (F : Fun K "_law_numbers" "_law_numbers" s__law_numbers f fd) (B : Bl mg)   : FnOk P w K mg base CX0 1 f fd ["face"] (sp__law_numbers K) :=
  fn_ok F sc__law_numbers (fun _ _ => rfl) (fun M ad a s0 HI F0 R => XSs.conv (
    xs_set 1 (xe_fr (xe_lst (ra := pI) (xl_cons (xe_int) (fun _ => xl_nil)))) (fun found1 s2 => xs_for (fun (c3 : (List Int)) => [some (fz pT a.1), some (fz (pL K pI) c3), none, none, none]) found1 (xi_str (xe_var (i := 0) rfl)) (xg_name 2) (.keep (.keep (.drop (.drop (.drop .nil))))) (fun F4 e5 sign6 c3 kn8 kb9 s7 => xs_setLc 3 [("number", 4)] (xi_list (xe_var (i := 1) rfl)) (xg_name 4) (fun number10 s11 => xts_one (xt_cmp (xc_eq dT (xe_var (i := 2) rfl) (fun _ => xe_str [42])))) (fun number10 s11 => xe_add (xe_mul (xe_int) (fun _ => xe_var (i := 4) rfl)) (fun _ => xe_int)) (fun more14 s15 => xs_freeze 3 rfl (xs_set 1 (xe_fr (xe_cat (xe_fr (xe_lc [("number", 4)] (xi_list (xe_var (i := 1) rfl)) (xg_name 4) (fun number16 s17 => xe_add (xe_mul (xe_int) (fun _ => xe_var (i := 4) rfl)) (fun _ => xe_intB B.int_ (xe_cmp (xc_eq dT (xe_var (i := 2) rfl) (fun _ => xe_str [49]))))))) (fun _ => xe_var (i := 3) rfl))) (fun found20 s21 => xs_nil found20 (.keep (.keep (.drop (.drop (.drop .nil))))))))) (fun c24 s25 => xs_ret (Same.refl _) (xe_var (i := 1) rfl)))
    ) (by exact fun h => h))
def m__law_is_parting : (Int × (List Text)) × (List Text) × Unit → Unit → (Bool → Unit → Prop) → Prop := fun a s0 k =>
  forB (fun face6 (c3 : Unit) s7 kn8 kb9 => (face6.length ≤ sizeLine ∧ (if ((!eqB ((face6.length : Int)) a.1.1) || (!eqB ((((cntT face6 ([48])) + (cntT face6 ([49]))) + (cntT face6 ([42])))) a.1.1)) = true then let __n := (); k false s7 else let __n := (); kn8 (()) s7))) (fun c12 s13 => ((-(2 ^ 62) ≤ ((1 : Int) : Int) ∧ ((1 : Int) : Int) < 2 ^ 62 ∧ -(2 ^ 62) ≤ ((a.2.1.length : Int) : Int) ∧ ((a.2.1.length : Int) : Int) < 2 ^ 62) ∧ forB (fun k17 (c14 : Unit) s18 kn19 kb20 => (∃ y32, atI a.2.1 ((k17 - (1 : Int))) = some y32 ∧ (((sgs y32)).length ≤ sizeLine ∧ compW (fun sign21 s22 k24 => k24 (some ((findT ([48, 49, 42]) sign21))) s22) (fun ys31 s23 => (∃ y34, atI a.2.1 k17 = some y34 ∧ (((sgs y34)).length ≤ sizeLine ∧ compW (fun sign25 s26 k28 => k28 (some ((findT ([48, 49, 42]) sign25))) s26) (fun ys33 s27 => (if (!ltE (eL eI) ys31 ys33) = true then let __n := (); k false s27 else let __n := (); kn19 (()) s27)) ((sgs y34)) s23 []))) ((sgs y32)) s18 []))) (fun c35 s36 => let found37 := ([] : List Int); forB (fun face42 (c39 : (List Int)) s43 kn44 kb45 => m__law_numbers (face42, ()) () (fun r49 _ => (c39.length + r49.length ≤ sizeLine ∧ let found48 := (c39 ++ r49); kn44 found48 s43))) (fun c50 s51 => let due52 := ([] : List Int); forB (fun corner57 (c54 : (List Int)) s58 kn59 kb60 => m__law_numbers (corner57, ()) () (fun r64 _ => (c54.length + r64.length ≤ sizeLine ∧ let due63 := (c54 ++ r64); kn59 due63 s58))) (fun c65 s66 => k ((eqB ((srtE eI c50)) c65)) s66) a.1.2 due52 s51) a.2.1 found37 s36) ((rg (1 : Int) (((a.2.1.length : Int) : Int) - (1 : Int)).toNat)) (()) s13)) a.2.1 (()) s0
abbrev sp__law_is_parting (K : PySem.W.Frag) : Sp := SpF Unit (fun ad (a : (Int × (List Text)) × (List Text) × Unit) => [fz (pP K pI (pU K pT)) a.1, fz (pU K pT) a.2.1]) (fun _ _ => emp) (fz pB) m__law_is_parting
theorem sc__law_is_parting : FnScope ["some", "faces", "bits", "corners", "face", "k", "sign", "found", "due", "corner"] ["some", "faces"] (defScope s__law_is_parting) := ⟨rfl, rfl, rfl, by decide +kernel, rfl, by decide +kernel, by decide +kernel⟩
theorem ok__law_is_parting  {f : Addr} {fd : FuncData} (F : Fun K "_law_is_parting" "_law_is_parting" s__law_is_parting f fd) (B : Bl mg)  (h__law_numbers : Has P w K mg base "_law_numbers" 1 ["face"] (sp__law_numbers K)) : FnOk P w K mg base CX0 2 f fd ["some", "faces"] (sp__law_is_parting K) :=
  fn_ok F sc__law_is_parting (fun _ _ => rfl) (fun M ad a s0 HI F0 R => XSs.conv (
    xs_asg (xe_var (i := 0) rfl) (xg_tup2 (xg_name 2) (xg_name 3)) (fun p1 s2 => xs_for (fun (c3 : Unit) => [some (fz (pP K pI (pU K pT)) a.1), some (fz (pU K pT) a.2.1), some (fz pI p1.1), some (fz (pU K pT) p1.2), none, none, none, none, none, none]) () (xi_tup (xe_var (i := 1) rfl)) (xg_name 4) (.keep (.keep (.keep (.keep (.drop (.drop (.drop (.drop (.drop (.drop .nil)))))))))) (fun F4 e5 face6 c3 kn8 kb9 s7 => xs_if (xt_w (xw_orp (y := (!eqB ((((cntT face6 ([48])) + (cntT face6 ([49]))) + (cntT face6 ([42])))) p1.1)) (xt_cmp (xc_ne dI (xe_lenT B.len_ (xe_var (i := 4) rfl)) (fun _ => xe_var (i := 2) rfl))) (fun _ => xw_or1 (xt_cmp (xc_ne dI (xe_add (xe_add (xe_count (xe_var (i := 4) rfl) (fun _ => xe_str [48])) (fun _ => xe_count (xe_var (i := 4) rfl) (fun _ => xe_str [49]))) (fun _ => xe_count (xe_var (i := 4) rfl) (fun _ => xe_str [42]))) (fun _ => xe_var (i := 2) rfl)))))) (fun _ s10 => xs_ret e5 (xe_bl)) (fun s11 => xs_nil () (.keep (.keep (.keep (.keep (.drop (.drop (.drop (.drop (.drop (.drop .nil)))))))))))) (fun c12 s13 => xs_for (fun (c14 : Unit) => [some (fz (pP K pI (pU K pT)) a.1), some (fz (pU K pT) a.2.1), some (fz pI p1.1), some (fz (pU K pT) p1.2), none, none, none, none, none, none]) () (xi_range2 B.range_ (xe_int) (fun _ => xe_lenU B.len_ (xe_var (i := 1) rfl))) (xg_name 5) (.keep (.keep (.keep (.keep (.drop (.drop (.drop (.drop (.drop (.drop .nil)))))))))) (fun F15 e16 k17 c14 kn19 kb20 s18 => xs_if (xt_cmp (xc_geD cLI (xe_fr (xe_lc [("sign", 6)] (xi_str (xe_ixU (xe_var (i := 1) rfl) (fun _ => xe_sub (xe_var (i := 5) rfl) (fun _ => xe_int)))) (xg_name 6) (fun sign21 s22 => xe_find (xe_str [48, 49, 42]) (fun _ => xe_var (i := 6) rfl)))) (fun _ => xe_fr (xe_lc [("sign", 6)] (xi_str (xe_ixU (xe_var (i := 1) rfl) (fun _ => xe_var (i := 5) rfl))) (xg_name 6) (fun sign25 s26 => xe_find (xe_str [48, 49, 42]) (fun _ => xe_var (i := 6) rfl)))))) (fun _ s29 => xs_ret e16 (xe_bl)) (fun s30 => xs_nil () (.keep (.keep (.keep (.keep (.drop (.drop (.drop (.drop (.drop (.drop .nil)))))))))))) (fun c35 s36 => xs_set 7 (xe_lst (ra := pI) (xl_nil)) (fun found37 s38 => xs_for (fun (c39 : (List Int)) => [some (fz (pP K pI (pU K pT)) a.1), some (fz (pU K pT) a.2.1), some (fz pI p1.1), some (fz (pU K pT) p1.2), none, none, none, some (ol pI c39), none, none]) found37 (xi_tup (xe_var (i := 1) rfl)) (xg_name 4) (.keep (.keep (.keep (.keep (.drop (.drop (.drop (.keep (.drop (.drop .nil)))))))))) (fun F40 e41 face42 c39 kn44 kb45 s43 => xs_extendF 7 rfl (xe_call h__law_numbers () foc_emp (xa_cons (xe_var (i := 4) rfl) (fun _ => xa_nil))) (fun y46 s47 => xs_nil (c39 ++ y46) (.keep (.keep (.keep (.keep (.drop (.drop (.drop (.keep (.drop (.drop .nil)))))))))))) (fun c50 s51 => xs_set 8 (xe_lst (ra := pI) (xl_nil)) (fun due52 s53 => xs_for (fun (c54 : (List Int)) => [some (fz (pP K pI (pU K pT)) a.1), some (fz (pU K pT) a.2.1), some (fz pI p1.1), some (fz (pU K pT) p1.2), none, none, none, some (ol pI c50), some (ol pI c54), none]) due52 (xi_tup (xe_var (i := 3) rfl)) (xg_name 9) (.keep (.keep (.keep (.keep (.drop (.drop (.drop (.keep (.keep (.drop .nil)))))))))) (fun F55 e56 corner57 c54 kn59 kb60 s58 => xs_extendF 8 rfl (xe_call h__law_numbers () foc_emp (xa_cons (xe_var (i := 9) rfl) (fun _ => xa_nil))) (fun y61 s62 => xs_nil (c54 ++ y61) (.keep (.keep (.keep (.keep (.drop (.drop (.drop (.keep (.keep (.drop .nil)))))))))))) (fun c65 s66 => xs_freeze 7 rfl (xs_freeze 8 rfl (xs_ret (Same.refl _) (xe_cmp (xc_eq (dL dI) (xe_fr (xe_sorted dI sI B.sorted_ (xe_var (i := 7) rfl))) (fun _ => xe_var (i := 8) rfl))))))))))))
    ) (by exact fun h => h))
def m__law_spoilt : (List Text) × Int × Unit → Nat → ((List Text) → Nat → Prop) → Prop := fun a s0 k =>
  nextD (((a.1.length : Int) + (1 : Int)), ()) s0 (fun r69 s70 => nextD ((3 : Int), ()) s70 (fun r71 s72 => (∃ y68, atI ([r69, (max2 (0 : Int) (((a.1.length : Int) - (1 : Int)))), (0 : Int)]) r71 = some y68 ∧ nextD (((a.1.length : Int) + (1 : Int)), ()) s72 (fun r66 s67 => (MulOk ([42]) a.2.1 ∧ (((cutG a.1 (some y68) none)).length + ([(mulT ([42]) a.2.1)]).length ≤ sizeLine ∧ (∃ y65, atI (((cutG a.1 (some y68) none) ++ [(mulT ([42]) a.2.1)])) (0 : Int) = some y65 ∧ nextD (a.2.1, ()) s67 (fun r63 s64 => nextD ((10 : Int), ()) s64 (fun r61 s62 => (([48, 49, 42, 48, 49, 42, 50, 32, 45, 97]).length ≤ sizeLine ∧ ∃ c60, atI ([48, 49, 42, 48, 49, 42, 50, 32, 45, 97]) r61 = some c60 ∧ let sign11 := [c60]; (y65.length ≤ sizeLine ∧ (((cutG y65 none (some r63))).length + sign11.length ≤ sizeLine ∧ (y65.length ≤ sizeLine ∧ ((((cutG y65 none (some r63)) ++ sign11)).length + ((cutG y65 (some ((r63 + (1 : Int)))) none)).length ≤ sizeLine ∧ let other13 := (((cutG y65 none (some r63)) ++ sign11) ++ (cutG y65 (some ((r63 + (1 : Int)))) none)); (y65.length ≤ sizeLine ∧ (((cutG y65 none (some r63))).length + ([48]).length ≤ sizeLine ∧ (y65.length ≤ sizeLine ∧ ((((cutG y65 none (some r63)) ++ [48])).length + ((cutG y65 (some ((r63 + (1 : Int)))) none)).length ≤ sizeLine ∧ (y65.length ≤ sizeLine ∧ (((cutG y65 none (some r63))).length + ([49]).length ≤ sizeLine ∧ (y65.length ≤ sizeLine ∧ ((((cutG y65 none (some r63)) ++ [49])).length + ((cutG y65 (some ((r63 + (1 : Int)))) none)).length ≤ sizeLine ∧ let halves15 := [(((cutG y65 none (some r63)) ++ [48]) ++ (cutG y65 (some ((r63 + (1 : Int)))) none)), (((cutG y65 none (some r63)) ++ [49]) ++ (cutG y65 (some ((r63 + (1 : Int)))) none))]; (y65.length + ([48]).length ≤ sizeLine ∧ (y65.length ≤ sizeLine ∧ (y65.length ≤ sizeLine ∧ (MulOk ([42]) a.2.1 ∧ m__law_face (a.2.1, ()) s62 (fun r56 s57 => nextD ((8 : Int), ()) s57 (fun r58 s59 => (∃ y55, atI ([other13, other13, ([] : Text), (y65 ++ [48]), (cutG y65 none (some ((-(1 : Int))))), y65.reverse, (mulT ([42]) a.2.1), r56]) r58 = some y55 ∧ (((cutG a.1 none (some y68))).length + ([y55]).length ≤ sizeLine ∧ ((((cutG a.1 none (some y68)) ++ [y55])).length + ((cutG a.1 (some ((y68 + (1 : Int)))) none)).length ≤ sizeLine ∧ (((cutG a.1 none (some y68))).length + ([y55]).length ≤ sizeLine ∧ ((((cutG a.1 none (some y68)) ++ [y55])).length + ((cutG a.1 (some y68) none)).length ≤ sizeLine ∧ (((cutG a.1 none (some y68))).length + ((cutG a.1 (some ((y68 + (1 : Int)))) none)).length ≤ sizeLine ∧ let ways19 := [(((cutG a.1 none (some y68)) ++ [y55]) ++ (cutG a.1 (some ((y68 + (1 : Int)))) none)), (((cutG a.1 none (some y68)) ++ [y55]) ++ (cutG a.1 (some y68) none)), ((cutG a.1 none (some y68)) ++ (cutG a.1 (some ((y68 + (1 : Int)))) none))]; (((cutG a.1 none (some y68))).length + halves15.length ≤ sizeLine ∧ ((((cutG a.1 none (some y68)) ++ halves15)).length + ((cutG a.1 (some ((y68 + (1 : Int)))) none)).length ≤ sizeLine ∧ (((cutG a.1 none (some y68))).length + ((cutG a.1 (some y68) (some ((y68 + (1 : Int)))))).length ≤ sizeLine ∧ ((((cutG a.1 none (some y68)) ++ (cutG a.1 (some y68) (some ((y68 + (1 : Int))))))).length + ((cutG a.1 (some y68) none)).length ≤ sizeLine ∧ (ways19.length + ([(((cutG a.1 none (some y68)) ++ halves15) ++ (cutG a.1 (some ((y68 + (1 : Int)))) none)), (((cutG a.1 none (some y68)) ++ (cutG a.1 (some y68) (some ((y68 + (1 : Int)))))) ++ (cutG a.1 (some y68) none)), a.1.reverse]).length ≤ sizeLine ∧ let ways21 := (ways19 ++ [(((cutG a.1 none (some y68)) ++ halves15) ++ (cutG a.1 (some ((y68 + (1 : Int)))) none)), (((cutG a.1 none (some y68)) ++ (cutG a.1 (some y68) (some ((y68 + (1 : Int)))))) ++ (cutG a.1 (some y68) none)), a.1.reverse]); jn (fun (kj25 : (List Text) → _ → Prop) => (if (!eqB a.1 (([] : List Text))) = true then let __ := (); let one29 := (min2 y68 (((a.1.length : Int) - (1 : Int)))); let two31 := (min2 r66 (((a.1.length : Int) - (1 : Int)))); (∃ y40, atI a.1 two31 = some y40 ∧ (∃ y41, atI a.1 one29 = some y41 ∧ (∃ n35, ixN a.1.length one29 = some n35 ∧ (∃ m36, ixN a.1.length two31 = some m36 ∧ let both39 := (a.1.set n35 ((y40, y41)).1).set m36 ((y40, y41)).2; kj25 both39 s59)))) else let __ := (); kj25 a.1 s59)) (fun z42 s28 => (∃ y53, atI ways21 (0 : Int) = some y53 ∧ (y53.length ≤ sizeLine ∧ compW (fun one43 s44 k46 => (one43.length ≤ sizeLine ∧ (if (decide ((0 : Int) ≤ (findT ([48, 49, 42]) ((cutG one43 none (some (1 : Int))))))) = true then k46 (some one43) s44 else k46 none s44))) (fun ys52 s45 => m__law_sorted (ys52, ()) () (fun r54 _ => (ways21.length + ([z42, r54]).length ≤ sizeLine ∧ let ways47 := (ways21 ++ [z42, r54]); nextD ((8 : Int), ()) s45 (fun r50 s51 => (∃ y49, atI ways47 r50 = some y49 ∧ k ((cutG y49 none (some (80 : Int)))) s51))))) y53 s28 []))))))))))))))))))))))))))))))))))))))))))
abbrev sp__law_spoilt (K : PySem.W.Frag) : Sp := SpF Addr (fun ad (a : (List Text) × Int × Unit) => [fz pA ad, fz (pU K pT) a.1, fz pI a.2.1]) (deckN K) (fz (pU K pT)) m__law_spoilt
theorem sc__law_spoilt : FnScope ["deck", "faces", "bits", "found", "at", "to", "face", "place", "sign", "other", "halves", "odd", "ways", "both", "one", "two"] ["deck", "faces", "bits"] (defScope s__law_spoilt) := ⟨rfl, rfl, rfl, by decide +kernel, rfl, by decide +kernel, by decide +kernel⟩
theorem ok__law_spoilt  {f : Addr} {fd : FuncData} (F : Fun K "_law_spoilt" "_law_spoilt" s__law_spoilt f fd) (B : Bl mg)  (h__law_next : Has P w K mg base "_law_next" 2 ["deck", "many"] (spNext K)) (h__law_face : Has P w K mg base "_law_face" 3 ["deck", "bits"] (sp__law_face K)) (h__law_sorted : Has P w K mg base "_law_sorted" 1 ["faces"] (sp__law_sorted K)) : FnOk P w K mg base CX0 4 f fd ["deck", "faces", "bits"] (sp__law_spoilt K) :=
  fn_ok F sc__law_spoilt (fun _ _ => rfl) (fun M ad a s0 HI F0 R => XSs.conv (
    xs_set 3 (xe_fr (xe_listU B.list_ (xe_var (i := 1) rfl))) (fun found1 s2 => xs_set 4 (xe_ixL (xe_fr (xe_lst (ra := pI) (xl_cons (xe_call h__law_next ad foc_id (xa_adr (i := 0) rfl (fun _ => xa_cons (xe_add (xe_lenL B.len_ (xe_var (i := 3) rfl)) (fun _ => xe_int)) (fun _ => xa_nil)))) (fun _ => xl_cons (xe_max2 B.max_ (xe_int) (fun _ => xe_sub (xe_lenL B.len_ (xe_var (i := 3) rfl)) (fun _ => xe_int))) (fun _ => xl_cons (xe_int) (fun _ => xl_nil)))))) (fun _ => xe_call h__law_next ad foc_id (xa_adr (i := 0) rfl (fun _ => xa_cons (xe_int) (fun _ => xa_nil))))) (fun at3 s4 => xs_set 5 (xe_call h__law_next ad foc_id (xa_adr (i := 0) rfl (fun _ => xa_cons (xe_add (xe_lenL B.len_ (xe_var (i := 3) rfl)) (fun _ => xe_int)) (fun _ => xa_nil)))) (fun to5 s6 => xs_set 6 (xe_ixL (xe_fr (xe_cat (xe_fr (xe_cutL (xe_var (i := 3) rfl) (fun _ => xo_some (xe_var (i := 4) rfl)) (fun _ => xo_none))) (fun _ => xe_fr (xe_lst (ra := pT) (xl_cons (xe_mulT (xe_str [42]) (fun _ => xe_var (i := 2) rfl)) (fun _ => xl_nil)))))) (fun _ => xe_int)) (fun face7 s8 => xs_set 7 (xe_call h__law_next ad foc_id (xa_adr (i := 0) rfl (fun _ => xa_cons (xe_var (i := 2) rfl) (fun _ => xa_nil)))) (fun place9 s10 => xs_set 8 (xe_ixT (xe_str [48, 49, 42, 48, 49, 42, 50, 32, 45, 97]) (fun _ => xe_call h__law_next ad foc_id (xa_adr (i := 0) rfl (fun _ => xa_cons (xe_int) (fun _ => xa_nil))))) (fun sign11 s12 => xs_set 9 (xe_addT (xe_addT (xe_cutT (xe_var (i := 6) rfl) (fun _ => xo_none) (fun _ => xo_some (xe_var (i := 7) rfl))) (fun _ => xe_var (i := 8) rfl)) (fun _ => xe_cutT (xe_var (i := 6) rfl) (fun _ => xo_some (xe_add (xe_var (i := 7) rfl) (fun _ => xe_int))) (fun _ => xo_none))) (fun other13 s14 => xs_set 10 (xe_fr (xe_lst (ra := pT) (xl_cons (xe_addT (xe_addT (xe_cutT (xe_var (i := 6) rfl) (fun _ => xo_none) (fun _ => xo_some (xe_var (i := 7) rfl))) (fun _ => xe_str [48])) (fun _ => xe_cutT (xe_var (i := 6) rfl) (fun _ => xo_some (xe_add (xe_var (i := 7) rfl) (fun _ => xe_int))) (fun _ => xo_none))) (fun _ => xl_cons (xe_addT (xe_addT (xe_cutT (xe_var (i := 6) rfl) (fun _ => xo_none) (fun _ => xo_some (xe_var (i := 7) rfl))) (fun _ => xe_str [49])) (fun _ => xe_cutT (xe_var (i := 6) rfl) (fun _ => xo_some (xe_add (xe_var (i := 7) rfl) (fun _ => xe_int))) (fun _ => xo_none))) (fun _ => xl_nil))))) (fun halves15 s16 => xs_set 11 (xe_ixL (xe_fr (xe_lst (ra := pT) (xl_cons (xe_var (i := 9) rfl) (fun _ => xl_cons (xe_var (i := 9) rfl) (fun _ => xl_cons (xe_str ([] : Text)) (fun _ => xl_cons (xe_addT (xe_var (i := 6) rfl) (fun _ => xe_str [48])) (fun _ => xl_cons (xe_cutT (xe_var (i := 6) rfl) (fun _ => xo_none) (fun _ => xo_some (xe_neg (xe_int)))) (fun _ => xl_cons (xe_revT (xe_var (i := 6) rfl)) (fun _ => xl_cons (xe_mulT (xe_str [42]) (fun _ => xe_var (i := 2) rfl)) (fun _ => xl_cons (xe_call h__law_face ad foc_id (xa_adr (i := 0) rfl (fun _ => xa_cons (xe_var (i := 2) rfl) (fun _ => xa_nil)))) (fun _ => xl_nil))))))))))) (fun _ => xe_call h__law_next ad foc_id (xa_adr (i := 0) rfl (fun _ => xa_cons (xe_int) (fun _ => xa_nil))))) (fun odd17 s18 => xs_set 12 (xe_fr (xe_lst (ra := (pL K pT)) (xl_cons (xe_fr (xe_cat (xe_fr (xe_cat (xe_fr (xe_cutL (xe_var (i := 3) rfl) (fun _ => xo_none) (fun _ => xo_some (xe_var (i := 4) rfl)))) (fun _ => xe_fr (xe_lst (ra := pT) (xl_cons (xe_var (i := 11) rfl) (fun _ => xl_nil)))))) (fun _ => xe_fr (xe_cutL (xe_var (i := 3) rfl) (fun _ => xo_some (xe_add (xe_var (i := 4) rfl) (fun _ => xe_int))) (fun _ => xo_none))))) (fun _ => xl_cons (xe_fr (xe_cat (xe_fr (xe_cat (xe_fr (xe_cutL (xe_var (i := 3) rfl) (fun _ => xo_none) (fun _ => xo_some (xe_var (i := 4) rfl)))) (fun _ => xe_fr (xe_lst (ra := pT) (xl_cons (xe_var (i := 11) rfl) (fun _ => xl_nil)))))) (fun _ => xe_fr (xe_cutL (xe_var (i := 3) rfl) (fun _ => xo_some (xe_var (i := 4) rfl)) (fun _ => xo_none))))) (fun _ => xl_cons (xe_fr (xe_cat (xe_fr (xe_cutL (xe_var (i := 3) rfl) (fun _ => xo_none) (fun _ => xo_some (xe_var (i := 4) rfl)))) (fun _ => xe_fr (xe_cutL (xe_var (i := 3) rfl) (fun _ => xo_some (xe_add (xe_var (i := 4) rfl) (fun _ => xe_int))) (fun _ => xo_none))))) (fun _ => xl_nil)))))) (fun ways19 s20 => xs_set 12 (xe_fr (xe_cat (xe_var (i := 12) rfl) (fun _ => xe_fr (xe_lst (ra := (pL K pT)) (xl_cons (xe_fr (xe_cat (xe_fr (xe_cat (xe_fr (xe_cutL (xe_var (i := 3) rfl) (fun _ => xo_none) (fun _ => xo_some (xe_var (i := 4) rfl)))) (fun _ => xe_var (i := 10) rfl))) (fun _ => xe_fr (xe_cutL (xe_var (i := 3) rfl) (fun _ => xo_some (xe_add (xe_var (i := 4) rfl) (fun _ => xe_int))) (fun _ => xo_none))))) (fun _ => xl_cons (xe_fr (xe_cat (xe_fr (xe_cat (xe_fr (xe_cutL (xe_var (i := 3) rfl) (fun _ => xo_none) (fun _ => xo_some (xe_var (i := 4) rfl)))) (fun _ => xe_fr (xe_cutL (xe_var (i := 3) rfl) (fun _ => xo_some (xe_var (i := 4) rfl)) (fun _ => xo_some (xe_add (xe_var (i := 4) rfl) (fun _ => xe_int))))))) (fun _ => xe_fr (xe_cutL (xe_var (i := 3) rfl) (fun _ => xo_some (xe_var (i := 4) rfl)) (fun _ => xo_none))))) (fun _ => xl_cons (xe_fr (xe_revL (xe_var (i := 3) rfl))) (fun _ => xl_nil)))))))) (fun ways21 s22 => xs_set 13 (xe_listL B.list_ (xe_var (i := 3) rfl)) (fun both23 s24 => xs_ifj (fun (z42 : (List Text)) => [some (fz pA ad), some (fz (pU K pT) a.1), some (fz pI a.2.1), some (fz (pL K pT) found1), some (fz pI at3), some (fz pI to5), some (fz pT face7), some (fz pI place9), some (fz pT sign11), some (fz pT other13), some (fz (pL K pT) halves15), some (fz pT odd17), some (fz (pL K (pL K pT)) ways21), some (ol pT z42), none, none]) (xt_cmp (xc_ne (dL dT) (xe_var (i := 3) rfl) (fun _ => xe_fr (xe_lst (ra := pT) (xl_nil))))) (fun kj25 s26 => xs_set 14 (xe_min2 B.min_ (xe_var (i := 4) rfl) (fun _ => xe_sub (xe_lenL B.len_ (xe_var (i := 3) rfl)) (fun _ => xe_int))) (fun one29 s30 => xs_set 15 (xe_min2 B.min_ (xe_var (i := 5) rfl) (fun _ => xe_sub (xe_lenL B.len_ (xe_var (i := 3) rfl)) (fun _ => xe_int))) (fun two31 s32 => xs_setO2 13 rfl (xe_tup2 (xe_peek (wd := fun k => (∃ y33, atI both23 two31 = some y33 ∧ k y33)) (.fz (.fz (.fz (.fz (.fz (.fz (.fz (.fz (.fz (.fz (.fz (.fz (.fz (.ol (.fz (.fz .nil)))))))))))))))) fl_T (xe_ixL (xe_var (i := 13) rfl) (fun _ => xe_var (i := 15) rfl))) (fun _ => xe_peek (wd := fun k => (∃ y34, atI both23 one29 = some y34 ∧ k y34)) (.fz (.fz (.fz (.fz (.fz (.fz (.fz (.fz (.fz (.fz (.fz (.fz (.fz (.ol (.fz (.fz .nil)))))))))))))))) fl_T (xe_ixL (xe_var (i := 13) rfl) (fun _ => xe_var (i := 14) rfl)))) (fun _ => xe_var (i := 14) rfl) (fun _ _ _ => xe_var (i := 15) rfl) (fun n35 m36 y37 s38 => xs_nil ((both23.set n35 y37.1).set m36 y37.2) (.keep (.keep (.keep (.keep (.keep (.keep (.keep (.keep (.keep (.keep (.keep (.keep (.keep (.keep (.drop (.drop .nil)))))))))))))))))))) (fun kj25 s27 => xs_nil both23 (.keep (.keep (.keep (.keep (.keep (.keep (.keep (.keep (.keep (.keep (.keep (.keep (.keep (.keep (.drop (.drop .nil))))))))))))))))) (fun z42 s28 => xs_freeze 13 rfl (xs_set 12 (xe_fr (xe_cat (xe_var (i := 12) rfl) (fun _ => xe_fr (xe_lst (ra := (pL K pT)) (xl_cons (xe_var (i := 13) rfl) (fun _ => xl_cons (xe_fr (xe_listU B.list_ (xe_call h__law_sorted () foc_emp (xa_cons (xe_fr (xe_lcif [("one", 14)] (xi_list (xe_ixL (xe_var (i := 12) rfl) (fun _ => xe_int))) (xg_name 14) (fun one43 s44 => xts_one (xt_cmp (xc_ge (xe_find (xe_str [48, 49, 42]) (fun _ => xe_cutT (xe_var (i := 14) rfl) (fun _ => xo_none) (fun _ => xo_some (xe_int)))) (fun _ => xe_int)))) (fun one43 s44 => xe_var (i := 14) rfl))) (fun _ => xa_nil))))) (fun _ => xl_nil))))))) (fun ways47 s48 => xs_ret (Same.refl _) (xe_tupL B.tuple_ (xe_fr (xe_cutL (xe_ixL (xe_var (i := 12) rfl) (fun _ => xe_call h__law_next ad foc_id (xa_adr (i := 0) rfl (fun _ => xa_cons (xe_int) (fun _ => xa_nil))))) (fun _ => xo_none) (fun _ => xo_some (xe_int))))))))))))))))))))
    ) (by exact fun h => h))
def m__law_right : (Int × (List Text)) × (List Text) × Unit → Unit → (Bool → Unit → Prop) → Prop := fun a s0 k =>
  m__law_is_parting (a.1, a.2.1, ()) () (fun r17 _ => ((-(2 ^ 62) ≤ (2 : Int) ∧ (2 : Int) < 2 ^ 62) ∧ forB (fun again6 (c3 : Unit) s7 kn8 kb9 => m_is_parting (a.1, a.2.1, ()) () (fun r14 _ => (if ((!true) || (!eqB r14 r17)) = true then let __n := (); k false s7 else let __n := (); kn8 (()) s7))) (fun c15 s16 => k true s16) ((rg 0 (2 : Int).toNat)) (()) s0))
abbrev sp__law_right (K : PySem.W.Frag) : Sp := SpF Unit (fun ad (a : (Int × (List Text)) × (List Text) × Unit) => [fz (pP K pI (pU K pT)) a.1, fz (pU K pT) a.2.1]) (fun _ _ => emp) (fz pB) m__law_right
theorem sc__law_right : FnScope ["some", "faces", "due", "again", "found"] ["some", "faces"] (defScope s__law_right) := ⟨rfl, rfl, rfl, by decide +kernel, rfl, by decide +kernel, by decide +kernel⟩
theorem ok__law_right  {f : Addr} {fd : FuncData} (F : Fun K "_law_right" "_law_right" s__law_right f fd) (B : Bl mg)  (h__law_is_parting : Has P w K mg base "_law_is_parting" 2 ["some", "faces"] (sp__law_is_parting K)) (h_is_parting : Has P w K mg base "is_parting" 3 ["some", "faces"] (sp_is_parting K)) : FnOk P w K mg base CX0 4 f fd ["some", "faces"] (sp__law_right K) :=
  fn_ok F sc__law_right (fun _ _ => rfl) (fun M ad a s0 HI F0 R => XSs.conv (
    xs_set 2 (xe_call h__law_is_parting () foc_emp (xa_cons (xe_var (i := 0) rfl) (fun _ => xa_cons (xe_var (i := 1) rfl) (fun _ => xa_nil)))) (fun due1 s2 => xs_for (fun (c3 : Unit) => [some (fz (pP K pI (pU K pT)) a.1), some (fz (pU K pT) a.2.1), some (fz pB due1), none, none]) () (xi_range1 B.range_ (xe_int)) (xg_name 3) (.keep (.keep (.keep (.drop (.drop .nil))))) (fun F4 e5 again6 c3 kn8 kb9 s7 => xs_set 4 (xe_call h_is_parting () foc_emp (xa_cons (xe_var (i := 0) rfl) (fun _ => xa_cons (xe_var (i := 1) rfl) (fun _ => xa_nil)))) (fun found10 s11 => xs_if (xt_w (xw_orp (y := (!eqB found10 due1)) (xt_not (xt_val (xe_isa (T := "bool") (U := "bool") (b := true) isa_B (by decide +kernel) b_bool B.isinstance_ B.bool_ (xe_var (i := 4) rfl)))) (fun _ => xw_or1 (xt_cmp (xc_ne dB (xe_var (i := 4) rfl) (fun _ => xe_var (i := 2) rfl)))))) (fun _ s12 => xs_ret e5 (xe_bl)) (fun s13 => xs_nil () (.keep (.keep (.keep (.drop (.drop .nil)))))))) (fun c15 s16 => xs_ret (Same.refl _) (xe_bl)))
    ) (by exact fun h => h))
def m_law : (List Int) × Unit → Unit → (Bool → Unit → Prop) → Prop := fun a s0 k =>
  m__law_deck (a.1, ()) () (fun r77 _ => (deckI (0 : Nat) r77 ∧ ((-(2 ^ 62) ≤ (4 : Int) ∧ (4 : Int) < 2 ^ 62) ∧ forB (fun turn7 (c4 : Unit) s8 kn9 kb10 => m__law_bits () s8 (fun r68 s69 => m__law_set (r68, ()) s69 (fun r66 s67 => nextD ((9 : Int), ()) s67 (fun r58 s59 => nextD ((60 : Int), ()) s59 (fun r60 s61 => nextD ((3 : Int), ()) s61 (fun r62 s63 => (∃ y57, atI ([r58, r60, (200 : Int)]) r62 = some y57 ∧ m__law_coarser (r66.2, y57, ()) s63 (fun r64 s65 => (MulOk ([42]) r68 ∧ let things17 := [r64, ([] : List Text), [(mulT ([42]) r68)], r66.2]; ((-(2 ^ 62) ≤ (6 : Int) ∧ (6 : Int) < 2 ^ 62) ∧ forB (fun k22 (c19 : (List (List Text))) s23 kn24 kb25 => m__law_spoilt (r64, r68, ()) s23 (fun r32 s33 => m__law_spoilt (r32, r68, ()) s33 (fun r30 s31 => (c19.length + ([r32, r30]).length ≤ sizeLine ∧ let things28 := (c19 ++ [r32, r30]); kn24 things28 s31)))) (fun c34 s35 => let other36 := (r68, (cutG r66.2 (some (1 : Int)) none)); forB (fun k41 (c38 : Unit) s42 kn43 kb44 => jn (fun k47 => m__law_right (r66, k41.2, ()) () (fun r50 _ => (if (!r50) = true then k47 true s42 else jn (fun k51 => ((0 : Int) < (5 : Int) ∧ (if (eqB ((k41.1 % (5 : Int))) (0 : Int)) = true then m__law_right (other36, k41.2, ()) () (fun r54 _ => k51 ((!r54)) s42) else k51 false s42))) (fun b52 s53 => k47 b52 s53)))) (fun b48 s49 => (if b48 = true then let __n := (); k false () else let __n := (); kn43 (()) s49))) (fun c55 s56 => kn9 (()) s56) ((enI c34)) (()) s35) ((rg 0 (6 : Int).toNat)) things17 s65)))))))))) (fun c70 s71 => jn (fun k72 => m_is_parting (((1 : Int), [[48], [49]]), [[42]], ()) () (fun r75 _ => (if (r75 == true) = true then m_is_parting (((2 : Int), [[48, 48], [48, 49]]), [[48, 49], [48, 48]], ()) () (fun r76 _ => k72 ((r76 == false)) s71) else k72 false s71))) (fun b73 s74 => k b73 ())) ((rg 0 (4 : Int).toNat)) (()) (0 : Nat))))
abbrev sp_law (K : PySem.W.Frag) : Sp := SpF Unit (fun ad (a : (List Int) × Unit) => [fz (pL K pI) a.1]) (fun _ _ => emp) (fz pB) m_law
theorem sc_law : FnScope ["script", "deck", "turn", "bits", "some", "faces", "things", "k", "once", "other", "thing"] ["script"] (defScope s_law) := ⟨rfl, rfl, rfl, by decide +kernel, rfl, by decide +kernel, by decide +kernel⟩
theorem ok_law  {f : Addr} {fd : FuncData} (F : Fun K "law" "law" s_law f fd) (B : Bl mg)  (h__law_deck : Has P w K mg base "_law_deck" 1 ["script"] (sp__law_deck K)) (h__law_bits : Has P w K mg base "_law_bits" 3 ["deck"] (sp__law_bits K)) (h__law_set : Has P w K mg base "_law_set" 4 ["deck", "bits"] (sp__law_set K)) (h__law_coarser : Has P w K mg base "_law_coarser" 3 ["deck", "faces", "times"] (sp__law_coarser K)) (h__law_next : Has P w K mg base "_law_next" 2 ["deck", "many"] (spNext K)) (h__law_spoilt : Has P w K mg base "_law_spoilt" 4 ["deck", "faces", "bits"] (sp__law_spoilt K)) (h__law_right : Has P w K mg base "_law_right" 4 ["some", "faces"] (sp__law_right K)) (h_is_parting : Has P w K mg base "is_parting" 3 ["some", "faces"] (sp_is_parting K)) : FnOk P w K mg base CX0 5 f fd ["script"] (sp_law K) :=
  fn_ok F sc_law (fun _ _ => rfl) (fun M ad a s0 HI F0 R => XSs.conv (
    xs_set 1 (xe_call h__law_deck () foc_emp (xa_cons (xe_var (i := 0) rfl) (fun _ => xa_nil))) (fun deck1 s2 => xs_adoptF 1 deckI (0 : Nat) rfl (fun ad3 => xs_for (fun (c4 : Unit) => [some (fz (pL K pI) a.1), some (fz pA ad3), none, none, none, none, none, none, none, none, none]) () (xi_range1 B.range_ (xe_int)) (xg_name 2) (.keep (.keep (.drop (.drop (.drop (.drop (.drop (.drop (.drop (.drop (.drop .nil))))))))))) (fun F5 e6 turn7 c4 kn9 kb10 s8 => xs_set 3 (xe_call h__law_bits ad3 foc_id (xa_adr (i := 1) rfl (fun _ => xa_nil))) (fun bits11 s12 => xs_set 4 (xe_call h__law_set ad3 foc_id (xa_adr (i := 1) rfl (fun _ => xa_cons (xe_var (i := 3) rfl) (fun _ => xa_nil)))) (fun some13 s14 => xs_set 5 (xe_call h__law_coarser ad3 foc_id (xa_adr (i := 1) rfl (fun _ => xa_cons (xe_pick2_1 (xe_var (i := 4) rfl)) (fun _ => xa_cons (xe_ixL (xe_fr (xe_lst (ra := pI) (xl_cons (xe_call h__law_next ad3 foc_id (xa_adr (i := 1) rfl (fun _ => xa_cons (xe_int) (fun _ => xa_nil)))) (fun _ => xl_cons (xe_call h__law_next ad3 foc_id (xa_adr (i := 1) rfl (fun _ => xa_cons (xe_int) (fun _ => xa_nil)))) (fun _ => xl_cons (xe_int) (fun _ => xl_nil)))))) (fun _ => xe_call h__law_next ad3 foc_id (xa_adr (i := 1) rfl (fun _ => xa_cons (xe_int) (fun _ => xa_nil))))) (fun _ => xa_nil))))) (fun faces15 s16 => xs_set 6 (xe_fr (xe_lst (ra := (pU K pT)) (xl_cons (xe_var (i := 5) rfl) (fun _ => xl_cons (xe_tupU (ra := pT) (xl_nil)) (fun _ => xl_cons (xe_tupU (ra := pT) (xl_cons (xe_mulT (xe_str [42]) (fun _ => xe_var (i := 3) rfl)) (fun _ => xl_nil))) (fun _ => xl_cons (xe_pick2_1 (xe_var (i := 4) rfl)) (fun _ => xl_nil))))))) (fun things17 s18 => xs_for (fun (c19 : (List (List Text))) => [some (fz (pL K pI) a.1), some (fz pA ad3), some (fz pI turn7), some (fz pI bits11), some (fz (pP K pI (pU K pT)) some13), some (fz (pU K pT) faces15), some (fz (pL K (pU K pT)) c19), none, none, none, none]) things17 (xi_range1 B.range_ (xe_int)) (xg_name 7) (.keep (.keep (.keep (.keep (.keep (.keep (.keep (.drop (.drop (.drop (.drop .nil))))))))))) (fun F20 e21 k22 c19 kn24 kb25 s23 => xs_set 8 (xe_call h__law_spoilt ad3 foc_id (xa_adr (i := 1) rfl (fun _ => xa_cons (xe_var (i := 5) rfl) (fun _ => xa_cons (xe_var (i := 3) rfl) (fun _ => xa_nil))))) (fun once26 s27 => xs_set 6 (xe_fr (xe_cat (xe_var (i := 6) rfl) (fun _ => xe_fr (xe_lst (ra := (pU K pT)) (xl_cons (xe_var (i := 8) rfl) (fun _ => xl_cons (xe_call h__law_spoilt ad3 foc_id (xa_adr (i := 1) rfl (fun _ => xa_cons (xe_var (i := 8) rfl) (fun _ => xa_cons (xe_var (i := 3) rfl) (fun _ => xa_nil))))) (fun _ => xl_nil))))))) (fun things28 s29 => xs_nil things28 (.keep (.keep (.keep (.keep (.keep (.keep (.keep (.drop (.drop (.drop (.drop .nil)))))))))))))) (fun c34 s35 => xs_set 9 (xe_tup2 (xe_var (i := 3) rfl) (fun _ => xe_cutU (xe_pick2_1 (xe_var (i := 4) rfl)) (fun _ => xo_some (xe_int)) (fun _ => xo_none))) (fun other36 s37 => xs_for (fun (c38 : Unit) => [some (fz (pL K pI) a.1), some (fz pA ad3), some (fz pI turn7), some (fz pI bits11), some (fz (pP K pI (pU K pT)) some13), some (fz (pU K pT) faces15), some (fz (pL K (pU K pT)) c34), none, none, some (fz (pP K pI (pU K pT)) other36), none]) () (xi_enum B.enumerate_ drw_L (xe_var (i := 6) rfl)) (xg_tup2 (xg_name 7) (xg_name 10)) (.keep (.keep (.keep (.keep (.keep (.keep (.keep (.drop (.drop (.keep (.drop .nil))))))))))) (fun F39 e40 k41 c38 kn43 kb44 s42 => xs_if (xt_w (xw_or (xt_not (xt_val (xe_call h__law_right () foc_emp (xa_cons (xe_var (i := 4) rfl) (fun _ => xa_cons (xe_var (i := 10) rfl) (fun _ => xa_nil)))))) (fun _ => xw_or1 (xt_w (xw_and (xt_cmp (xc_eq dI (xe_mod (xe_var (i := 7) rfl) (fun _ => xe_int)) (fun _ => xe_int))) (fun _ => xw_and1 (xt_not (xt_val (xe_call h__law_right () foc_emp (xa_cons (xe_var (i := 9) rfl) (fun _ => xa_cons (xe_var (i := 10) rfl) (fun _ => xa_nil)))))))))))) (fun _ s45 => xs_ret (e6.trans e40) (xe_bl)) (fun s46 => xs_nil () (.keep (.keep (.keep (.keep (.keep (.keep (.keep (.drop (.drop (.keep (.drop .nil))))))))))))) (fun c55 s56 => xs_nil () (.keep (.keep (.drop (.drop (.drop (.drop (.drop (.drop (.drop (.drop (.drop .nil))))))))))))))))))) (fun c70 s71 => xs_ret (Same.refl _) (xe_and (xe_cmp (xc_isB (xe_call h_is_parting () foc_emp (xa_cons (xe_tup2 (xe_int) (fun _ => xe_tupU (ra := pT) (xl_cons (xe_str [48]) (fun _ => xl_cons (xe_str [49]) (fun _ => xl_nil))))) (fun _ => xa_cons (xe_tupU (ra := pT) (xl_cons (xe_str [42]) (fun _ => xl_nil))) (fun _ => xa_nil)))) (fun _ => xe_bl))) (fun _ => xe_one (xe_cmp (xc_isB (xe_call h_is_parting () foc_emp (xa_cons (xe_tup2 (xe_int) (fun _ => xe_tupU (ra := pT) (xl_cons (xe_str [48, 48]) (fun _ => xl_cons (xe_str [48, 49]) (fun _ => xl_nil))))) (fun _ => xa_cons (xe_tupU (ra := pT) (xl_cons (xe_str [48, 49]) (fun _ => xl_cons (xe_str [48, 48]) (fun _ => xl_nil)))) (fun _ => xa_nil)))) (fun _ => xe_bl))))))))
    ) (by exact fun h => h))
end
end G

set_option Elab.async false
set_option linter.all false
set_option maxRecDepth 100000
set_option maxHeartbeats 4000000
namespace G
open PySem PySem.Spec PyProof.Rows L2 Sm
open Fc Tb Od Pt
theorem hz1000 {z : Nat} (q : z ≤ 1000) : z ≤ sizeLine := Nat.le_trans q (by decide)
theorem p64 {b : Nat} (h : b ≤ 6) : 2 ^ b ≤ 64 := by
  have : b = 0 ∨ b = 1 ∨ b = 2 ∨ b = 3 ∨ b = 4 ∨ b = 5 ∨ b = 6 := by omega
  rcases this with rfl | rfl | rfl | rfl | rfl | rfl | rfl <;> decide
theorem e2b (b : Nat) : (1 : Int) * 2 ^ ((b : Int)).toNat = ((2 ^ b : Nat) : Int) := by simp
theorem cp1 {n : Int} (h0 : 0 ≤ n) (h1 : n ≤ 1000) : CPow 1 n := ⟨h0, by omega, by decide⟩
theorem single_len {acc : List Text} (h : ∀ y ∈ acc, y.length = 1) : (acc.map (·.length)).sum = acc.length := by
  induction acc with
  | nil => rfl
  | cons y acc ih =>
    rw [List.map_cons, List.sum_cons, ih fun z hz => h z (List.mem_cons_of_mem _ hz), h y List.mem_cons_self, List.length_cons]; omega
theorem star_text (b : Nat) : mulT ([42] : Text) (b : Int) = List.replicate b 42 := by
  unfold mulT
  rw [Int.toNat_natCast]
  induction b with
  | zero => rfl
  | succ n ih => rw [List.replicate_succ, List.flatten_cons, ih, List.replicate_succ]; rfl
theorem fm_two {s : Nat} (c : Text) : ((sgs [48, 49]).filterMap fun bit => if memB [s] [bit, [42]] = true then some (c ++ bit) else none) = (if s = 48 ∨ s = 42 then [c ++ [48]] else []) ++ (if s = 49 ∨ s = 42 then [c ++ [49]] else []) := by
  by_cases h1 : s = 48
  · subst h1; simp [sgs]
  by_cases h2 : s = 49
  · subst h2; simp [sgs]
  by_cases h3 : s = 42
  · subst h3; simp [sgs]
  · simp [sgs, h1, h2, h3]
theorem corners_by {f : Text} {C : List Text → Unit → Prop} (hf : f.length ≤ 6) (h : C (Fc.crn f) ()) : m_corners_of (f, ()) () C := by
  have hz : ∀ z, z ≤ 1000 → z ≤ sizeLine := fun z q => Nat.le_trans q (by decide)
  refine forB_by (fun xs found (s : Unit) => ∃ g : Text, xs = sgs g ∧ g.length ≤ 6 ∧ found.length * 2 ^ g.length ≤ 64 ∧ (∀ y ∈ found, y.length + g.length ≤ 6) ∧ g.foldl Fc.stepC found = Fc.crn f) ?_ _ _ _ ⟨f, rfl, hf, ?_, ?_, Fc.foldl_crn f⟩ ?_
  · rintro c s ⟨g, e, _, _, _, q⟩
    have : g = [] := List.map_eq_nil_iff.mp e.symm
    subst this
    rw [show c = Fc.crn f from q]; exact h
  · show 1 * 2 ^ f.length ≤ 64
    have : f.length = 0 ∨ f.length = 1 ∨ f.length = 2 ∨ f.length = 3 ∨ f.length = 4 ∨ f.length = 5 ∨ f.length = 6 := by omega
    rcases this with e | e | e | e | e | e | e <;> rw [e] <;> decide
  · intro y hy; rw [List.mem_singleton.mp hy]; show 0 + f.length ≤ 6; omega
  · rintro x xs' found s ⟨g, e, q1, q2, q3, q4⟩ kn hk
    cases g with
    | nil => cases e
    | cons sg g =>
      cases e
      rw [List.length_cons] at q1 q2 q3
      have q0 : 0 < 2 ^ g.length := Nat.pow_pos (by decide)
      have q5 : found.length * 2 * 2 ^ g.length ≤ 64 := by rw [Nat.mul_assoc, Nat.mul_comm 2, ← Nat.pow_succ]; exact q2
      have q6 : found.length * 2 ≤ 64 := Nat.le_trans (Nat.le_mul_of_pos_right _ q0) q5
      have one : ∀ c : Text, ((if sg = 48 ∨ sg = 42 then [c ++ [48]] else []) ++ (if sg = 49 ∨ sg = 42 then [c ++ [49]] else [])).length ≤ 2 := fun c => by
        rw [List.length_append]
        split <;> split <;> simp
      refine forB_by (fun ys (longer : List Text) (s : Unit) => ∃ done, found = done ++ ys ∧ longer = Fc.stepC done sg ∧ longer.length ≤ 2 * done.length) ?_ _ _ _ ⟨[], rfl, rfl, Nat.le_refl _⟩ ?_
      · rintro longer s ⟨done, e1, rfl, e3⟩
        rw [List.append_nil] at e1
        subst e1
        refine hk _ _ ⟨g, rfl, by omega, ?_, fun y hy => ?_, q4⟩
        · refine Nat.le_trans (Nat.mul_le_mul_right _ e3) ?_
          rw [Nat.mul_comm 2]; exact q5
        · obtain ⟨c, hc, hy⟩ := List.mem_flatMap.mp hy
          have l := q3 c hc
          rcases List.mem_append.mp hy with z | z
          · split at z
            · rw [List.mem_singleton.mp z, List.length_append]; simp; omega
            · cases z
          · split at z
            · rw [List.mem_singleton.mp z, List.length_append]; simp; omega
            · cases z
      · rintro c ys longer s ⟨done, e1, e2, e3⟩ kn2 hk2
        have lc : c.length + (g.length + 1) ≤ 6 := q3 c (by rw [e1]; simp)
        have ld : done.length < found.length := by rw [e1]; simp
        refine ⟨hz _ (by decide), compW_fm (fun bit => if memB [sg] [bit, [42]] = true then some (c ++ bit) else none) _ _ _ ?_ ?_⟩
        · intro bit hb s kk q
          dsimp only
          by_cases hm : memB [sg] [bit, [42]] = true
          · rw [if_pos hm] at q ⊢
            refine ⟨hz _ ?_, q⟩
            obtain ⟨b, _, rfl⟩ := List.mem_map.mp hb
            simp; omega
          · rw [if_neg hm] at q ⊢
            exact q
        · rw [List.nil_append, fm_two]
          have l1 := one c
          refine ⟨hz _ (by omega), hk2 _ _ ⟨done ++ [c], by rw [e1]; simp, ?_, ?_⟩⟩
          · rw [e2]
            unfold Fc.stepC
            rw [List.flatMap_append]; simp
          · refine Nat.le_trans (Nat.le_of_eq List.length_append) ?_
            rw [show (done ++ [c]).length = done.length + 1 by simp]; omega
theorem law_bits_by {n : Nat} {C : Int → Nat → Prop} (hn : n + 3 < 2 ^ 40) (h : ∀ r : Int, 1 ≤ r → r ≤ 6 → C r (n + 3)) : m__law_bits () n C := by
  refine ⟨by decide, by decide, by omega, fun r2 a0 a1 => ⟨by decide, by decide, by omega, fun r4 b0 b1 => ⟨by decide, by decide, by omega, fun r6 c0 c1 => ?_⟩⟩⟩
  dsimp only at a1 b1 c1
  obtain rfl | rfl | rfl : r6 = 0 ∨ r6 = 1 ∨ r6 = 2 := by omega
  · exact ⟨_, rfl, h _ (by omega) (by omega)⟩
  · exact ⟨_, rfl, h _ (by omega) (by omega)⟩
  · exact ⟨_, rfl, h _ (by omega) (by omega)⟩
theorem flat_one : ∀ {acc : List Text}, (∀ y ∈ acc, ∃ c, y = [c] ∧ (c = 48 ∨ c = 49 ∨ c = 42)) → acc.flatten.length = acc.length ∧ Fc.isF acc.flatten
  | [], _ => ⟨rfl, fun c hc => by cases hc⟩
  | y :: acc, h => by
    obtain ⟨c, rfl, hc⟩ := h y List.mem_cons_self
    obtain ⟨e, g⟩ := flat_one fun z hz => h z (List.mem_cons_of_mem _ hz)
    rw [List.flatten_cons]
    exact ⟨by rw [List.length_append, List.length_cons, List.length_cons, e]; simp; omega, fun d hd => by
      rcases List.mem_append.mp hd with q | q
      · rw [List.mem_singleton.mp q]; exact hc
      · exact g d q⟩
theorem sum_one : ∀ {acc : List Text}, (∀ y ∈ acc, ∃ c, y = [c] ∧ (c = 48 ∨ c = 49 ∨ c = 42)) → (acc.map (·.length)).sum = acc.length
  | [], _ => rfl
  | y :: acc, h => by
    obtain ⟨c, rfl, hc⟩ := h y List.mem_cons_self
    rw [List.map_cons, List.sum_cons, sum_one fun z hz => h z (List.mem_cons_of_mem _ hz)]
    simp; omega
theorem law_face_by {n b : Nat} {C : Text → Nat → Prop} (hb : b ≤ 64) (hn : n + 1 + b < 2 ^ 40) (h : ∀ f : Text, f.length = b → Fc.isF f → C f (n + 1 + b)) : m__law_face ((b : Int), ()) n C := by
  refine ⟨by decide, by decide, by omega, fun r a0 a1 => ?_⟩
  dsimp only at a1
  have key : ∀ signs : Text, 0 < signs.length → signs.length < 100 → Fc.isF signs → ((-(2 ^ 62) ≤ (b : Int) ∧ (b : Int) < 2 ^ 62) ∧ ((rg 0 (b : Int).toNat).length ≤ sizeLine ∧ compW (fun k5 s6 k8 => (signs.length ≤ sizeLine ∧ nextD ((signs.length : Int), ()) s6 (fun r10 s11 => (signs.length ≤ sizeLine ∧ ∃ c9, atI signs r10 = some c9 ∧ k8 (some ([c9])) s11)))) (fun ys12 s7 => ((ys12.map (·.length)).sum + ys12.length * ([] : Text).length ≤ 16777216 ∧ C ((joinT ([] : Text) ys12)) s7)) ((rg 0 (b : Int).toNat)) (n + 1) [])) := by
    intro signs p0 p1 hs
    have z : signs.length ≤ sizeLine := Nat.le_trans (Nat.le_of_lt p1) (by decide)
    refine ⟨⟨by omega, by omega⟩, by rw [Fc.rg_length]; exact Nat.le_trans (by omega) (show 64 ≤ sizeLine by decide), ?_⟩
    refine compW_by (fun xs acc s => (∀ y ∈ acc, ∃ c, y = [c] ∧ (c = 48 ∨ c = 49 ∨ c = 42)) ∧ acc.length + xs.length = b ∧ s = n + 1 + acc.length) ?_ _ _ _ ⟨fun y hy => (by cases hy), by rw [Fc.rg_length]; simp, rfl⟩ ?_
    · rintro ys s ⟨q1, q2, rfl⟩
      simp only [List.length_nil, Nat.add_zero] at q2
      refine ⟨by rw [sum_one q1]; simp; omega, ?_⟩
      rw [Fc.joinT_nil, q2]
      exact h _ ((flat_one q1).1.trans q2) (flat_one q1).2
    · rintro x xs' acc s ⟨q1, q2, rfl⟩ kk hk
      rw [List.length_cons] at q2
      refine ⟨z, by dsimp only; omega, by dsimp only; omega, by omega, fun r10 d0 d1 => ⟨z, _, atI_of d0 d1, hk _ _ ⟨fun y hy => ?_, ?_, ?_⟩⟩⟩
      · rcases List.mem_append.mp hy with q | q
        · exact q1 y q
        · exact ⟨_, List.mem_singleton.mp q, hs _ (List.getElem_mem _)⟩
      · simp; omega
      · simp; omega
  obtain rfl | rfl | rfl | rfl | rfl : r = 0 ∨ r = 1 ∨ r = 2 ∨ r = 3 ∨ r = 4 := by omega
  all_goals exact ⟨_, rfl, key _ (by decide) (by decide) (by unfold Fc.isF; decide)⟩
theorem deck_ok {ns : List Int} (hl : ns.length ≤ 63) {C : List (List Int ⊕ Int) → Unit → Prop} (h : ∀ y, deckI 0 y → C y ()) : m__law_deck (ns, ()) () C := by
  refine h _ ⟨_, _, _, _, _, rfl, ?_, by decide, by decide, by decide, by decide⟩
  refine Nat.le_trans ?_ hl
  show (List.take _ (List.drop _ _)).length ≤ _
  rw [List.length_take, List.length_drop]
  exact Nat.le_trans (Nat.min_le_right _ _) (Nat.sub_le _ _)
theorem corner_comp {x : Int} {b : Nat} {k : List Text → Unit → Prop} (hb : b ≤ 64) (h : ∀ ys : List Text, (ys.map (·.length)).sum + ys.length * ([] : Text).length ≤ 16777216 → joinT ([] : Text) ys = cN b x → k ys ()) :
    compW (fun (k1 : Int) (s2 : Unit) (k4 : Option Text → Unit → Prop) => ((0 : Int) ≤ (((b : Int) - (1 : Int)) - k1) ∧ (((Builtin.bitAnd ((x / 2 ^ ((((b : Int) - (1 : Int)) - k1) : Int).toNat)) (1 : Int)) : Int).natAbs.log2 < 1920 ∧ k4 (some ((strI ((Builtin.bitAnd ((x / 2 ^ ((((b : Int) - (1 : Int)) - k1) : Int).toNat)) (1 : Int)))))) s2))) k (rg 0 b) () [] := by
  refine compW_by (fun xs acc _ => (∀ y ∈ acc, y.length = 1) ∧ acc.length + xs.length = b ∧ ∃ m : Nat, m ≤ b ∧ xs = rg (b - m : Int) m ∧ acc.flatten ++ Fc.cN m x = Fc.cN b x) ?_ _ _ _ ⟨fun y hy => (by cases hy), by rw [Fc.rg_length]; simp, b, Nat.le_refl _, by rw [Int.sub_self], rfl⟩ ?_
  · rintro ys s ⟨q1, q2, m, m1, m2, m3⟩
    have m0 : m = 0 := by
      have := congrArg List.length m2
      rw [Fc.rg_length] at this
      exact this.symm
    subst m0
    simp only [List.length_nil, Nat.add_zero] at q2
    refine h ys (by rw [single_len q1]; simp; omega) ?_
    rw [Fc.joinT_nil]
    exact (List.append_nil _).symm.trans m3
  · rintro k xs acc s ⟨q1, q2, m, m1, m2, m3⟩ kk hk
    cases m with
    | zero => cases m2
    | succ m =>
      rw [Fc.rg_succ] at m2
      injection m2 with m2 m4
      subst m2
      have es : ((b : Int) - 1 - ((b : Int) - ((m + 1 : Nat) : Int))) = (m : Int) := by omega
      rw [es, Int.toNat_natCast, PyProof.Rows.bitAnd_m1]
      have e01 : x / 2 ^ m % 2 = 0 ∨ x / 2 ^ m % 2 = 1 := by omega
      have et : strI (x / 2 ^ m % 2) = [Fc.bt (x / 2 ^ m)] := by
        unfold Fc.bt
        rcases e01 with e | e
        · rw [if_pos e, e]; decide +kernel
        · rw [if_neg (by omega), e]; decide +kernel
      refine ⟨by omega, ?_, ?_⟩
      · rcases e01 with e | e <;> rw [e] <;> decide
      · rw [et]
        refine hk _ _ ⟨fun y hy => ?_, ?_, m, by omega, ?_, ?_⟩
        · rcases List.mem_append.mp hy with q | q
          · exact q1 y q
          · rw [List.mem_singleton.mp q]; rfl
        · rw [List.length_append]; simp only [List.length_cons, List.length_nil] at q2 ⊢; omega
        · rw [m4]; congr 1; omega
        · simp only [List.flatten_append, List.flatten_cons, List.flatten_nil, List.append_nil, List.append_assoc]
          exact m3
theorem all_by {b : Nat} {C : List Text → Unit → Prop} (hb : b ≤ 6) (h : C (allC b) ()) : m__law_all ((b : Int), ()) () C := by
  have hp := p64 hb
  have hpi : ((2 ^ b : Nat) : Int) ≤ 64 := by exact_mod_cast hp
  unfold m__law_all
  dsimp only
  rw [e2b]
  simp only [Int.toNat_natCast]
  refine ⟨cp1 (by omega) (by omega), ⟨Int.le_trans (by decide) (Int.natCast_nonneg _), Int.lt_of_le_of_lt hpi (by decide)⟩, ?_⟩
  refine forB_by (fun xs found (s : Unit) => ∃ done, rg 0 (2 ^ b) = done ++ xs ∧ found = done.map (cN b)) ?_ _ _ _ ⟨[], rfl, rfl⟩ ?_
  · rintro c s ⟨done, e, rfl⟩
    rw [List.append_nil] at e
    rw [← e, allC_rg]; exact h
  · rintro p xs found s ⟨done, e1, e2⟩ kn hk
    have hl : done.length < 64 := by
      have := congrArg List.length e1
      rw [rg_length, List.length_append, List.length_cons] at this
      omega
    refine ⟨⟨by omega, by omega⟩, hz1000 (by rw [rg_length]; omega), ?_⟩
    refine corner_comp (by omega) fun ys y1 y2 => ⟨y1, Nat.lt_of_lt_of_le (show found.length < 64 by rw [e2, List.length_map]; exact hl) (by decide), hk _ _ ⟨done ++ [p], by rw [e1]; simp, ?_⟩⟩
    rw [y2, e2, List.map_append]; rfl
theorem lies_by {f c : Text} {C : Bool → Unit → Prop} (hf : f.length ≤ 64) (hc : c.length = f.length) (h : ∀ r, C r ()) : m__law_lies (f, c, ()) () C := by
  have z1 : f.length ≤ sizeLine := hz1000 (by omega)
  have z2 : c.length ≤ sizeLine := hz1000 (by omega)
  unfold m__law_lies
  dsimp only
  rw [Int.toNat_natCast]
  refine ⟨z1, ⟨by omega, by omega⟩, ?_⟩
  refine forB_by (fun (xs : List Int) _ _ => ∀ x ∈ xs, 0 ≤ x ∧ x < (f.length : Int)) (fun _ _ _ => h true) _ _ _ ?_ ?_
  · intro x hx
    have := rg_mem.mp hx
    omega
  intro x xs _ s q kn hk
  obtain ⟨x0, x1⟩ := q x List.mem_cons_self
  refine jn_by (fun _ _ => True) ?_ ?_
  · intro kj hj
    refine ⟨z1, _, atI_of x0 x1, ?_⟩
    split
    · exact ⟨z1, _, atI_of x0 x1, z2, _, atI_of x0 (by rw [hc]; exact x1), hj _ _ trivial⟩
    · exact hj _ _ trivial
  · intro b' s _
    split
    · exact h false
    · exact hk _ _ fun y hy => q y (List.mem_cons_of_mem _ hy)
theorem set_by {b n : Nat} {C : Int × List Text → Nat → Prop} (hb : b ≤ 6) (hn : n + 1000 < 2 ^ 40) (h : ∀ z n', z.Sublist (allC b) → n' ≤ n + 200 → C ((b : Int), z) n') : m__law_set ((b : Int), ()) n C := by
  have hp := p64 hb
  have hp0 : 0 < 2 ^ b := Nat.pow_pos (by decide)
  have hal : (allC b).length ≤ 64 := by rw [allC_length]; exact hp
  have hal0 : 0 < (allC b).length := by rw [allC_length]; exact hp0
  refine all_by hb ⟨by decide, by decide, by omega, fun way w0 w1 => ⟨⟨by decide, by decide, by decide⟩, ⟨by decide, by decide, by decide⟩, ?_⟩⟩
  dsimp only at w1
  obtain ⟨y, hy, y0, y1⟩ : ∃ y, atI ([(1 : Int), ((10 : Int) ^ ((6 : Int) : Int).toNat), ((10 : Int) ^ ((6 : Int) : Int).toNat), (2 : Int), (8 : Int), (2 : Int), (3 : Int), (4 : Int)]) way = some y ∧ 0 < y ∧ y < 2 ^ 30 := by
    obtain rfl | rfl | rfl | rfl | rfl | rfl | rfl | rfl : way = 0 ∨ way = 1 ∨ way = 2 ∨ way = 3 ∨ way = 4 ∨ way = 5 ∨ way = 6 ∨ way = 7 := by omega
    all_goals exact ⟨_, rfl, by decide, by decide⟩
  refine ⟨y, hy, hz1000 (by omega), ?_⟩
  refine compW_by (fun xs acc (s : Nat) => ∃ done, allC b = done ++ xs ∧ acc.Sublist done ∧ s = n + 1 + done.length) ?_ _ _ _ ⟨[], rfl, .slnil, rfl⟩ ?_
  · rintro ys s ⟨done, e1, e2, rfl⟩
    rw [List.append_nil] at e1
    subst e1
    refine jn_by (fun z s => z.Sublist (allC b) ∧ s ≤ n + 70) ?_ ?_
    · intro kj hj
      split
      · refine ⟨by dsimp only; omega, by dsimp only; omega, by omega, fun r r0 r1 => ?_⟩
        dsimp only at r1
        exact ⟨_, atI_of r0 r1, hj _ _ ⟨List.singleton_sublist.mpr (List.getElem_mem _), by omega⟩⟩
      · exact hj _ _ ⟨e2, by omega⟩
    rintro z s ⟨z1, z2⟩
    refine jn_by (fun z s => z.Sublist (allC b) ∧ s ≤ n + 70) ?_ ?_
    · intro kj hj
      split
      · refine ⟨hz1000 (by omega), compW_fm (fun c => if (!memB c z) = true then some c else none) _ _ _ (fun c _ s kk q => ?_) (hj _ _ ⟨?_, z2⟩)⟩
        · split
          · rename_i g; rw [if_pos g] at q; exact q
          · rename_i g; rw [if_neg g] at q; exact q
        · have e : ∀ l : List Text, l.filterMap (fun c => if (!memB c z) = true then some c else none) = l.filter fun c => !memB c z := fun l => by rw [← List.filterMap_eq_filter]; rfl
          rw [List.nil_append, e]
          exact List.filter_sublist
      · exact hj _ _ ⟨z1, z2⟩
    rintro z s ⟨z1, z2⟩
    refine jn_by (fun z s => z.Sublist (allC b) ∧ s ≤ n + 200) ?_ ?_
    · intro kj hj
      split
      · refine ⟨by decide, by decide, by omega, fun r r0 r1 => ?_⟩
        dsimp only at r1
        refine ⟨⟨by omega, by omega⟩, hz1000 (by rw [rg_length]; omega), ?_⟩
        refine compW_by (fun xs acc (t : Nat) => (∀ f ∈ acc, f.length = b) ∧ acc.length + xs.length ≤ 4 ∧ t ≤ s + 1 + 7 * acc.length) ?_ _ _ _ ⟨fun f hf => (by cases hf), by rw [rg_length]; simp; omega, Nat.le_refl _⟩ ?_
        · rintro fs t ⟨f1, f2, f3⟩
          simp only [List.length_nil, Nat.add_zero] at f2
          refine ⟨hz1000 (by omega), ?_⟩
          refine compW_by (fun xs acc (u : Nat) => ∃ done, allC b = done ++ xs ∧ acc.Sublist done ∧ u = t) ?_ _ _ _ ⟨[], rfl, .slnil, rfl⟩ ?_
          · rintro zs u ⟨done, g1, g2, rfl⟩
            rw [List.append_nil] at g1
            subst g1
            exact hj _ _ ⟨g2, by omega⟩
          · rintro c xs acc u ⟨done, g1, g2, rfl⟩ kk hk
            have hc : c.length = b := allC_len (by rw [g1]; simp)
            refine ⟨hz1000 (by omega), ?_⟩
            refine compW_by (fun xs _ (v : Nat) => (∀ f ∈ xs, f.length = b) ∧ v = u) ?_ _ _ _ ⟨f1, rfl⟩ ?_
            · rintro ys v ⟨_, rfl⟩
              split
              · exact hk _ _ ⟨done ++ [c], by rw [g1]; simp, g2.append (List.Sublist.refl _), rfl⟩
              · exact hk _ _ ⟨done ++ [c], by rw [g1]; simp, g2.trans (List.sublist_append_left _ _), rfl⟩
            · rintro f xs' acc' v ⟨v1, rfl⟩ kk2 hk2
              have hf := v1 f List.mem_cons_self
              refine lies_by (by omega) (by omega) fun r => ?_
              split
              · exact hk2 _ _ ⟨fun f hf => v1 f (List.mem_cons_of_mem _ hf), rfl⟩
              · exact hk2 _ _ ⟨fun f hf => v1 f (List.mem_cons_of_mem _ hf), rfl⟩
        · rintro x xs acc t ⟨f1, f2, f3⟩ kk hk
          rw [List.length_cons] at f2
          refine law_face_by (by omega) (by omega) fun f hf _ => hk _ _ ⟨fun y hy => ?_, ?_, ?_⟩
          · rcases List.mem_append.mp hy with q | q
            · exact f1 y q
            · rw [List.mem_singleton.mp q]; exact hf
          · rw [List.length_append, List.length_singleton]; omega
          · rw [List.length_append, List.length_singleton]; omega
      · exact hj _ _ ⟨z1, by omega⟩
    rintro z s ⟨z1, z2⟩
    exact h z s z1 z2
  · rintro c xs acc s ⟨done, e1, e2, rfl⟩ kk hk
    have hl : done.length < 64 := by
      have := congrArg List.length e1
      rw [List.length_append, List.length_cons] at this
      omega
    refine ⟨y0, y1, by omega, fun r r0 r1 => ?_⟩
    dsimp only
    split
    · exact hk _ _ ⟨done ++ [c], by rw [e1]; simp, e2.append (List.Sublist.refl _), by rw [List.length_append, List.length_singleton]; omega⟩
    · exact hk _ _ ⟨done ++ [c], by rw [e1]; simp, e2.trans (List.sublist_append_left _ _), by rw [List.length_append, List.length_singleton]; omega⟩
theorem sgs_length (f : Text) : (sgs f).length = f.length := List.length_map ..
theorem sgs_mem {f t : Text} (h : t ∈ sgs f) : ∃ c, c ∈ f ∧ t = [c] := by
  obtain ⟨c, hc, e⟩ := List.mem_map.mp h
  exact ⟨c, hc, e.symm⟩
theorem strI3 {c : Nat} (h : c = 48 ∨ c = 49 ∨ c = 42) : strI (findT [48, 49, 42] [c]) = [dg c] ∧ (findT [48, 49, 42] [c]).natAbs.log2 < 1920 := by
  rcases h with rfl | rfl | rfl <;> decide +kernel
theorem order_by {f : Text} {C : Text → Unit → Prop} (hf : f.length ≤ 64) (hF : isF f) (h : C (od f) ()) : m_order_of (f, ()) () C := by
  unfold m_order_of
  dsimp only
  refine ⟨hz1000 (by rw [sgs_length]; omega), compW_fm (fun t => some (strI (findT [48, 49, 42] t))) _ _ _ (fun t ht s kk q => ?_) ?_⟩
  · obtain ⟨c, hc, rfl⟩ := sgs_mem ht
    exact ⟨(strI3 (hF c hc)).2, q⟩
  · have e : ∀ f : Text, isF f → (sgs f).filterMap (fun t => some (strI (findT [48, 49, 42] t))) = sgs (od f) := by
      intro f
      induction f with
      | nil => intro _; rfl
      | cons c f ih =>
        intro hF
        show List.filterMap _ ([c] :: sgs f) = [dg c] :: sgs (od f)
        rw [List.filterMap_cons, ih fun d hd => hF d (List.mem_cons_of_mem _ hd), (strI3 (hF c List.mem_cons_self)).1]
    rw [List.nil_append, e f hF]
    have e1 : ∀ y ∈ sgs (od f), y.length = 1 := fun y hy => by obtain ⟨c, _, rfl⟩ := sgs_mem hy; rfl
    refine ⟨?_, ?_⟩
    · rw [single_len e1, sgs_length, od_len]; simp; omega
    · rw [joinT_nil]
      have e2 : ∀ f : Text, (sgs f).flatten = f := by
        intro f
        induction f with
        | nil => rfl
        | cons c f ih => show [c] ++ (sgs f).flatten = _; rw [ih]; rfl
      rw [e2]; exact h
theorem in_order_by {fs : List Text} {C : List Text → Unit → Prop} (hl : fs.length ≤ 1000) (hf : ∀ f ∈ fs, f.length ≤ 64 ∧ isF f) (h : C (srtF fs) ()) : m_in_order (fs, ()) () C := by
  unfold m_in_order
  dsimp only
  refine ⟨hz1000 hl, compW_fm (fun f => some (od f, f)) _ _ _ (fun f hm s kk q => order_by (hf f hm).1 (hf f hm).2 q) ?_⟩
  have e : [] ++ fs.filterMap (fun f => some (od f, f)) = fs.map fun f => (od f, f) := by rw [List.nil_append, ← List.filterMap_eq_map]; rfl
  rw [e]
  refine ⟨hz1000 (by rw [List.length_mergeSort, List.length_map]; exact hl), compW_fm (fun p => some p.2) _ _ _ (fun p hp s kk q => q) ?_⟩
  have e2 : ∀ l : List (Text × Text), [] ++ l.filterMap (fun p => some p.2) = l.map (·.2) := fun l => by rw [List.nil_append, ← List.filterMap_eq_map]; rfl
  rw [e2]
  show C ((List.mergeSort (fs.map fun f => (od f, f)) (PySem.W.dataLe false (eP eT eT))).map (·.2)) ()
  rw [srtF_pairs (key := od) fun f hf' g hg => ?_]
  · exact h
  · rw [leTT]
    dsimp only
    unfold fle
    by_cases q : od f = od g
    · rw [if_pos q, od_inj (hf f hf').2 (hf g hg).2 q]
      rw [decide_eq_true (List.le_refl _), decide_eq_true (List.le_refl _)]
    · rw [if_neg q]
theorem is_face_by {b : Nat} {f : Text} {C : Bool → Unit → Prop} (hf : f.length ≤ 1000) (h : C (decide (f.length = b ∧ isF f)) ()) : m_is_face ((b : Int), f, ()) () C := by
  unfold m_is_face
  dsimp only
  refine jn_by (fun r (_ : Unit) => r = decide (f.length = b ∧ isF f)) ?_ (fun z s e => by rw [e]; exact h)
  intro kj hj
  refine ⟨hz1000 hf, ?_⟩
  by_cases e : f.length = b
  · rw [if_pos (by rw [eqB_iff]; exact congrArg Int.ofNat e)]
    refine ⟨hz1000 (by rw [sgs_length]; exact hf), compW_fm (fun t => if (!inT t [48, 49, 42]) = true then some t else none) _ _ _ (fun t ht s kk q => ?_) ?_⟩
    · split
      · rename_i g; rw [if_pos g] at q; exact q
      · rename_i g; rw [if_neg g] at q; exact q
    · refine hj _ _ ?_
      rw [Bool.eq_iff_iff, eqB_iff, decide_eq_true_iff, List.nil_append]
      constructor
      · intro q
        refine ⟨e, fun c hc => ?_⟩
        have := List.filterMap_eq_nil_iff.mp q [c] (List.mem_map.mpr ⟨c, hc, rfl⟩)
        rw [inT_one] at this
        by_cases g : c ∈ [48, 49, 42]
        · simpa using g
        · rw [decide_eq_false g] at this; cases this
      · rintro ⟨_, q⟩
        refine List.filterMap_eq_nil_iff.mpr fun t ht => ?_
        obtain ⟨c, hc, rfl⟩ := sgs_mem ht
        rw [inT_one, decide_eq_true (by simpa using q c hc)]; rfl
  · rw [if_neg (by rw [eqB_iff]; exact fun q => e (Int.ofNat.inj q))]
    exact hj _ _ (by symm; rw [decide_eq_false_iff_not]; exact fun q => e q.1)
theorem is_parting_by {b : Nat} {z fs : List Text} {C : Bool → Unit → Prop} (hb : b ≤ 6) (hz : z.Sublist (allC b)) (hl : fs.length ≤ 100) (hf : ∀ f ∈ fs, f.length ≤ 1000) (h : C (decide (Part b z fs)) ()) :
    m_is_parting (((b : Int), z), fs, ()) () C := by
  unfold m_is_parting
  dsimp only
  refine jn_by (fun r (_ : Unit) => (r = true → ¬ Part b z fs) ∧ (r = false → Faces b fs ∧ srtF fs = fs)) ?_ ?_
  · intro kj hj
    refine ⟨hz1000 (by omega), compW_fm (fun f => if (!decide (f.length = b ∧ isF f)) = true then some f else none) _ _ _ (fun f hm s kk q => is_face_by (hf f hm) ?_) ?_⟩
    · split
      · rename_i g; rw [if_pos g] at q; exact q
      · rename_i g; rw [if_neg g] at q; exact q
    · have e : ([] ++ fs.filterMap fun f => if (!decide (f.length = b ∧ isF f)) = true then some f else none) = [] ↔ Faces b fs := by
        rw [List.nil_append, List.filterMap_eq_nil_iff]
        constructor
        · intro q f hm
          have := q f hm
          by_cases g : f.length = b ∧ isF f
          · exact g
          · rw [decide_eq_false g] at this; cases this
        · intro q f hm
          rw [decide_eq_true (q f hm)]; rfl
      by_cases g : Faces b fs
      · rw [e.mpr g, if_neg (by simp)]
        refine in_order_by (by omega) (fun f hm => ⟨by have := (g f hm).1; omega, (g f hm).2⟩) ?_
        refine hj _ _ ⟨fun q p => ?_, fun q => ⟨g, ?_⟩⟩
        · rw [(part_looked hz g).mp p |>.1] at q; simp [eqB] at q
        · simpa using q
      · rw [if_pos (by simpa [eqB] using fun q => g (e.mp q))]
        exact hj _ _ ⟨fun _ p => g p.fc, fun q => by cases q⟩
  · rintro r s ⟨q1, q2⟩
    cases r with
    | true =>
      rw [if_pos rfl]
      have e : decide (Part b z fs) = false := decide_eq_false (q1 rfl)
      rw [e] at h; exact h
    | false =>
      rw [if_neg (by decide)]
      obtain ⟨g, g2⟩ := q2 rfl
      refine forB_by (fun xs (c : List Text) (_ : Unit) => ∃ done, fs = done ++ xs ∧ c = done.flatMap crn ∧ c.length ≤ 64 * done.length) ?_ _ _ _ ⟨[], rfl, rfl, Nat.le_refl _⟩ ?_
      · rintro c s ⟨done, e1, e2, _⟩
        rw [List.append_nil] at e1
        subst e1 e2
        have e : (eqB (srtE eT (fs.flatMap crn)) z) = decide (Part b z fs) := by
          rw [Bool.eq_iff_iff, eqB_iff, decide_eq_true_iff, part_looked hz g]
          exact ⟨fun q => ⟨g2, q⟩, fun q => q.2⟩
        rw [e]; exact h
      · rintro f xs c s ⟨done, e1, e2, e3⟩ kn hk
        have hm : f ∈ fs := by rw [e1]; simp
        have hn : done.length < fs.length := by rw [e1]; simp
        have h64 := Nat.le_trans (crn_le f) (p64 (by rw [(g f hm).1]; exact hb))
        have hbig : ∀ z, z ≤ 10000 → z ≤ sizeLine := fun z q => Nat.le_trans q (by decide)
        refine corners_by (by rw [(g f hm).1]; exact hb) ⟨hbig _ (by omega), hk _ _ ⟨done ++ [f], by rw [e1]; simp, by rw [e2]; simp, ?_⟩⟩
        rw [List.length_append, List.length_append, List.length_singleton]; omega
theorem find3 (t : Text) (h : t.length = 1) : True := trivial
theorem law_sorted_by {fs : List Text} {C : List Text → Unit → Prop} (hl : fs.length ≤ 1000) (hf : ∀ f ∈ fs, f.length ≤ 1000) (h : ∀ gs, gs.Perm fs → ((∀ f ∈ fs, isF f) → gs = srtF fs) → C gs ()) : m__law_sorted (fs, ()) () C := by
  unfold m__law_sorted
  dsimp only
  refine ⟨hz1000 hl, compW_fm (fun f => some (fd f, f)) _ _ _ (fun f hm s kk q => ⟨hz1000 (by rw [sgs_length]; exact hf f hm), compW_fm (fun t => some (findT [48, 49, 42] t)) _ _ _ (fun t ht s kk q => q) ?_⟩) ?_⟩
  · have e : [] ++ (sgs f).filterMap (fun t => some (findT [48, 49, 42] t)) = fd f := by
      rw [List.nil_append, List.filterMap_eq_map']
      unfold sgs fd
      rw [List.map_map]; rfl
    rw [e]; exact q
  · have e : [] ++ fs.filterMap (fun f => some (fd f, f)) = fs.map fun f => (fd f, f) := by rw [List.nil_append, List.filterMap_eq_map']
    rw [e]
    refine ⟨hz1000 (by rw [List.length_mergeSort, List.length_map]; exact hl), compW_fm (fun p => some p.2) _ _ _ (fun p hp s kk q => q) ?_⟩
    have e2 : ∀ l : List (List Int × Text), [] ++ l.filterMap (fun p => some p.2) = l.map (·.2) := fun l => by rw [List.nil_append, List.filterMap_eq_map']
    rw [e2]
    refine h _ ?_ fun hF => ?_
    · have p := ((List.mergeSort_perm (fs.map fun f => (fd f, f)) (PySem.W.dataLe false (eP (eL eI) eT))).map (·.2))
      rw [List.map_map] at p
      have : (fs.map ((fun p : List Int × Text => p.2) ∘ fun f => (fd f, f))) = fs := (List.map_congr_left fun f _ => rfl).trans (List.map_id _)
      rw [this] at p
      exact p
    · refine srtF_pairs (key := fd) fun f hf' g hg => ?_
      rw [leLT]
      dsimp only
      unfold fle
      by_cases q : fd f = fd g
      · rw [if_pos q, fd_inj (hF f hf') (hF g hg) q]
        rw [decide_eq_true (List.le_refl _), decide_eq_true (List.le_refl _)]
      · rw [if_neg q, Bool.eq_iff_iff, decide_eq_true_iff, decide_eq_true_iff]
        have h1 := fd_lt (hF g hg) (hF f hf')
        constructor
        · intro l; exact List.not_lt.mp fun m => List.not_lt.mpr l (h1.mpr m)
        · intro l; exact List.not_lt.mp fun m => List.not_lt.mpr l (h1.mp m)
theorem unl_cons (a c : Nat) (f g : Text) : unl (a :: f) (c :: g) = if a = c then (unl f g).map (· + 1) else 0 :: (unl f g).map (· + 1) := rfl
theorem unl_comp {f g : Text} (hl : f.length = g.length) {B : Int → Unit → (Option Int → Unit → Prop) → Prop} {k : List Int → Unit → Prop}
    (hB : ∀ (i : Nat) (c d : Nat), f[i]? = some c → g[i]? = some d → ∀ s kk, kk (if c = d then none else some (i : Int)) s → B (i : Int) s kk) (h : k ((unl f g).map fun u : Nat => (u : Int)) ()) : compW B k (rg 0 f.length) () [] := by
  refine compW_by (fun xs acc (_ : Unit) => ∃ m : Nat, m ≤ f.length ∧ xs = rg (m : Int) (f.length - m) ∧ acc ++ (unl (f.drop m) (g.drop m)).map (fun u : Nat => ((u + m : Nat) : Int)) = (unl f g).map fun u : Nat => (u : Int)) ?_ _ _ _ ⟨0, Nat.zero_le _, rfl, by simp⟩ ?_
  · rintro ys s ⟨m, m1, m2, m3⟩
    have : f.length - m = 0 := by have := congrArg List.length m2; rw [rg_length] at this; exact this.symm
    have e : f.drop m = [] := List.drop_eq_nil_of_le (by omega)
    rw [e] at m3
    simp only [unl, List.map_nil, List.append_nil] at m3
    rw [m3]; exact h
  · rintro x xs acc s ⟨m, m1, m2, m3⟩ kk hk
    have hm : m < f.length := by
      have := congrArg List.length m2
      rw [rg_length, List.length_cons] at this; omega
    rw [show f.length - m = (f.length - (m + 1)) + 1 by omega, rg_succ] at m2
    injection m2 with m4 m5
    subst m4
    have hg : m < g.length := by omega
    refine hB m f[m] g[m] (List.getElem?_eq_getElem hm) (List.getElem?_eq_getElem hg) s kk (hk _ _ ⟨m + 1, hm, by rw [m5]; congr 1, ?_⟩)
    rw [List.drop_eq_getElem_cons hm, List.drop_eq_getElem_cons hg] at m3
    rw [unl_cons] at m3
    by_cases e : f[m] = g[m]
    · rw [if_pos e] at m3 ⊢
      rw [← m3, List.map_map]
      show acc ++ _ = acc ++ _
      congr 1
      refine List.map_congr_left fun u _ => ?_
      show ((u + (m + 1) : Nat) : Int) = ((u + 1 + m : Nat) : Int)
      omega
    · rw [if_neg e] at m3 ⊢
      rw [← m3, List.map_cons, List.map_map]
      show acc ++ [(m : Int)] ++ _ = acc ++ _ :: _
      rw [List.append_assoc, List.singleton_append]
      congr 2
      · omega
      · refine List.map_congr_left fun u _ => ?_
        show ((u + (m + 1) : Nat) : Int) = ((u + 1 + m : Nat) : Int)
        omega
theorem srt_two (a c : Nat) : srtE eT [[a], [c]] = [[48], [49]] ↔ (a = 48 ∧ c = 49) ∨ (a = 49 ∧ c = 48) := by
  have := srt_corners (b := 1) (z := [[48], [49]]) (xs := [[a], [c]]) (by decide)
  rw [this]
  constructor
  · intro p
    have h1 := p.mem_iff.mp (show [a] ∈ [[a], [c]] by simp)
    have h2 := p.mem_iff.mp (show [c] ∈ [[a], [c]] by simp)
    have h3 := p.mem_iff.mpr (show [48] ∈ [[48], [49]] by simp)
    have h4 := p.mem_iff.mpr (show [49] ∈ [[48], [49]] by simp)
    simp at h1 h2 h3 h4
    omega
  · rintro (⟨rfl, rfl⟩ | ⟨rfl, rfl⟩)
    · exact .refl _
    · exact .swap ..
theorem one_of_by {f g : Text} {C : Option Text → Unit → Prop} (hl : f.length = g.length) (hf : f.length ≤ 900) (h : C (oneOf f g) ()) : m__law_one_of (f, g, ()) () C := by
  have zf : f.length ≤ sizeLine := hz1000 (by omega)
  have zg : g.length ≤ sizeLine := hz1000 (by omega)
  unfold m__law_one_of
  dsimp only
  rw [Int.toNat_natCast]
  refine ⟨zf, ⟨by omega, by omega⟩, by rw [rg_length]; exact zf, unl_comp hl (fun i c d hc hd s kk q => ⟨zf, c, ?_, zg, d, ?_, ?_⟩) ?_⟩
  · have hi : i < f.length := (List.getElem?_eq_some_iff.mp hc).1
    rw [atI_nat hi, ← hc, List.getElem?_eq_getElem hi]
  · have hi : i < g.length := (List.getElem?_eq_some_iff.mp hd).1
    rw [atI_nat hi, ← hd, List.getElem?_eq_getElem hi]
  · by_cases e : c = d
    · rw [if_pos e] at q
      rw [if_neg (by simp [e])]; exact q
    · rw [if_neg e] at q
      rw [if_pos (by simp [eqB, e])]; exact q
  refine jn_by (fun r (_ : Unit) => (r = true → oneOf f g = none) ∧ (r = false → ∃ u, u < f.length ∧ unl f g = [u] ∧ oneOf f g = some (f.take u ++ [42] ++ f.drop (u + 1)))) ?_ ?_
  · intro kj hj
    rw [List.length_map]
    cases hu : unl f g with
    | nil =>
      rw [if_pos (by decide)]
      refine hj _ _ ⟨fun _ => ?_, fun q => by cases q⟩
      unfold oneOf; rw [hu]
    | cons u us =>
      cases us with
      | cons v vs =>
        rw [if_pos (by simp [eqB]; omega)]
        refine hj _ _ ⟨fun _ => ?_, fun q => by cases q⟩
        unfold oneOf; rw [hu]
      | nil =>
        rw [if_neg (by simp)]
        obtain ⟨p, r, a, c, e1, e2, e3, e4⟩ := unl_one hl hu
        have uf : u < f.length := by rw [e1, ← e3]; simp
        have ug : u < g.length := by rw [e2, ← e3]; simp
        have fa : f[u]? = some a := by rw [e1, ← e3]; simp
        have gc : g[u]? = some c := by rw [e2, ← e3]; simp
        refine ⟨_, rfl, zf, a, ?_, _, rfl, zg, c, ?_, hj _ _ ?_⟩
        · rw [atI_nat uf, ← List.getElem?_eq_getElem uf]; exact fa
        · rw [atI_nat ug, ← List.getElem?_eq_getElem ug]; exact gc
        have ho : oneOf f g = if (a = 48 ∧ c = 49) ∨ (a = 49 ∧ c = 48) then some (f.take u ++ [42] ++ f.drop (u + 1)) else none := by
          unfold oneOf
          rw [hu]
          simp only [fa, gc, Option.some.injEq]
        by_cases q : (a = 48 ∧ c = 49) ∨ (a = 49 ∧ c = 48)
        · rw [if_pos q] at ho
          refine ⟨fun r => ?_, fun _ => ⟨u, uf, hu, ho⟩⟩
          rw [(srt_two a c).mpr q] at r
          simp [eqB] at r
        · rw [if_neg q] at ho
          refine ⟨fun _ => ho, fun r => ?_⟩
          have : eqB (srtE eT [[a], [c]]) [[48], [49]] = true := by
            cases hb : eqB (srtE eT [[a], [c]]) [[48], [49]] with
            | true => rfl
            | false => rw [hb] at r; cases r
          exact absurd ((srt_two a c).mp (eqB_iff.mp this)) q
  · rintro r s ⟨q1, q2⟩
    cases r with
    | true =>
      rw [if_pos rfl]
      have := q1 rfl
      rw [this] at h
      exact h
    | false =>
      rw [if_neg (by decide)]
      obtain ⟨u, uf, hu, ho⟩ := q2 rfl
      rw [hu]
      have l1 : (f.take u).length ≤ 900 := by rw [List.length_take]; omega
      have l2 : (f.drop (u + 1)).length ≤ 900 := by rw [List.length_drop]; omega
      refine ⟨_, rfl, zf, ?_, _, rfl, zf, ?_, ?_⟩
      · show (cutG f none (some (u : Int))).length + 1 ≤ _
        rw [cut_take]; exact hz1000 (by omega)
      · show (cutG f none (some (u : Int)) ++ [42]).length + (cutG f (some ((u : Int) + 1)) none).length ≤ _
        rw [cut_take, cut_drop1]
        refine Nat.le_trans ?_ (show 2000 ≤ sizeLine by decide)
        rw [List.length_append]; simp only [List.length_singleton]; omega
      · show C (some (cutG f none (some (u : Int)) ++ [42] ++ cutG f (some ((u : Int) + 1)) none)) ()
        rw [cut_take, cut_drop1, ← ho]
        exact h
theorem coarser_by {b n : Nat} {t : Int} {fs : List Text} {C : List Text → Nat → Prop} (hb : b ≤ 64) (hfs : Faces b fs) (hl : fs.length ≤ 100) (t0 : 0 ≤ t) (t1 : t ≤ 1000) (hn : n + 3000 < 2 ^ 40)
    (h : ∀ gs n', Crs fs gs → n' ≤ n + 2 * t.toNat → C (srtF gs) n') : m__law_coarser (fs, t, ()) n C := by
  unfold m__law_coarser
  dsimp only
  refine ⟨⟨by omega, by omega⟩, ?_⟩
  refine forB_by (fun xs (c : List Text) (s : Nat) => Crs fs c ∧ xs.length ≤ t.toNat ∧ s + 2 * xs.length ≤ n + 2 * t.toNat) ?_ _ _ _ ⟨.refl _, by rw [rg_length]; exact Nat.le_refl _, by rw [rg_length]; exact Nat.le_refl _⟩ ?_
  · rintro c s ⟨q1, _, q3⟩
    obtain ⟨f1, f2, _⟩ := q1.faces hfs
    exact law_sorted_by (by omega) (fun f hf => by have := (f1 f hf).1; omega) fun gs _ e => by
      rw [e fun f hf => (f1 f hf).2]; exact h _ _ q1 (by simpa using q3)
  · rintro x xs c s ⟨q1, q2, q3⟩ kn hk
    rw [List.length_cons] at q2 q3
    obtain ⟨f1, f2, _⟩ := q1.faces hfs
    have cl : c.length ≤ 100 := by omega
    have pos : (0 : Int) < (c.length : Int) + (if (eqB c ([] : List Text)) then 1 else 0 : Int) := by
      by_cases e : c = []
      · rw [e]; decide
      · have : 0 < c.length := List.length_pos_iff.mpr e
        split <;> omega
    have up : (c.length : Int) + (if (eqB c ([] : List Text)) then 1 else 0 : Int) < 2 ^ 30 := by split <;> omega
    refine ⟨pos, up, by omega, fun at_ a0 a1 => ?_⟩
    dsimp only at a1
    refine ⟨⟨by omega, by omega⟩, hz1000 (by rw [rg_length]; omega), ?_⟩
    rw [Int.toNat_natCast]
    obtain ⟨a, rfl⟩ := Int.eq_ofNat_of_zero_le a0
    have hac : c ≠ [] → a < c.length := fun ce => by
      rw [if_neg (by simpa [eqB] using ce)] at a1; omega
    refine compW_by (fun xs acc (s' : Nat) => s' = s + 1 ∧ (∀ x ∈ xs, 0 ≤ x ∧ x < (c.length : Int)) ∧ acc.length + xs.length ≤ c.length ∧ ∀ y ∈ acc, ∃ j : Nat, y = (j : Int) ∧ ∃ (ha : a < c.length) (hj : j < c.length), (oneOf c[a] c[j]).isSome = true) ?_ _ _ _ ⟨rfl, ?_, ?_, fun y hy => (by cases hy)⟩ ?_
    · rintro ys s' ⟨rfl, _, g3, g4⟩
      simp only [List.length_nil, Nat.add_zero] at g3
      refine jn_by (fun z s' => Crs fs z ∧ s' ≤ s + 2) (fun kj hj => ?_) ?_
      · by_cases ye : ys = []
        · rw [if_neg (by simp [eqB, ye])]
          exact hj _ _ ⟨q1, by omega⟩
        · have yl : 0 < ys.length := List.length_pos_iff.mpr ye
          rw [if_pos (by simp [eqB, ye])]
          refine ⟨by dsimp only; omega, by dsimp only; omega, by omega, fun r r0 r1 => ?_⟩
          dsimp only at r1
          refine ⟨_, atI_of r0 r1, ?_⟩
          obtain ⟨j, ej, ha, hj1, hj2⟩ := g4 _ (List.getElem_mem (l := ys) (n := r.toNat) (by omega))
          rw [ej]
          have hij : a ≠ j := fun e => by
            subst e
            rw [oneOf_self] at hj2; cases hj2
          refine ⟨hz1000 (by unfold enI; rw [List.length_map, List.length_zipIdx]; omega), compW_fm (fun p => if (!memB p.1 [(a : Int), (j : Int)]) = true then some p.2 else none) _ _ _ (fun p hp s kk q => ?_) ?_⟩
          · split
            · rename_i g; rw [if_pos g] at q; exact q
            · rename_i g; rw [if_neg g] at q; exact q
          · rw [List.nil_append]
            have pm := two_out (xs := c) (List.getElem?_eq_getElem ha) (List.getElem?_eq_getElem hj1) hij
            refine ⟨_, atI_nat ha, _, atI_nat hj1, ?_⟩
            have hfa := f1 _ (List.getElem_mem ha)
            have hfj := f1 _ (List.getElem_mem hj1)
            refine one_of_by (hfa.1.trans hfj.1.symm) (by omega) ?_
            obtain ⟨w, hw⟩ := Option.isSome_iff_exists.mp hj2
            have pl := pm.length_eq
            simp only [List.length_cons] at pl
            refine ⟨w, hw, ?_, hj _ _ ⟨Crs.step q1 pm hw, by omega⟩⟩
            show _ + 1 ≤ _
            exact hz1000 (by omega)
      · rintro z s' ⟨g1, g2⟩
        exact hk _ _ ⟨g1, by omega, by omega⟩
    · intro x hx
      have := rg_mem.mp hx
      omega
    · rw [rg_length]; simp
    · rintro k ks acc s' ⟨rfl, g2, g3, g4⟩ kk hkk
      obtain ⟨k0, k1⟩ := g2 k List.mem_cons_self
      obtain ⟨j, rfl⟩ := Int.eq_ofNat_of_zero_le k0
      have hj : j < c.length := by omega
      have ha : a < c.length := hac fun e => by rw [e] at hj; cases hj
      have hfa := f1 _ (List.getElem_mem ha)
      have hfj := f1 _ (List.getElem_mem hj)
      rw [List.length_cons] at g3
      refine ⟨_, atI_nat ha, _, atI_nat hj, one_of_by (hfa.1.trans hfj.1.symm) (by omega) ?_⟩
      split
      · rename_i q
        refine hkk _ _ ⟨rfl, fun x hx => g2 x (List.mem_cons_of_mem _ hx), by rw [List.length_append, List.length_singleton]; omega, fun y hy => ?_⟩
        rcases List.mem_append.mp hy with hy | hy
        · exact g4 y hy
        · rw [List.mem_singleton.mp hy]; exact ⟨j, rfl, ha, hj, q⟩
      · exact hkk _ _ ⟨rfl, fun x hx => g2 x (List.mem_cons_of_mem _ hx), by dsimp only; omega, g4⟩
theorem numbers_by {f : Text} {C : List Int → Unit → Prop} (hf : f.length ≤ 6) (h : C (lnum f) ()) : m__law_numbers (f, ()) () C := by
  unfold m__law_numbers
  dsimp only
  refine forB_by (fun xs (c : List Int) (_ : Unit) => ∃ g : Text, xs = sgs g ∧ g.length ≤ 6 ∧ c.length * 2 ^ g.length ≤ 64 ∧ g.foldl lstep c = lnum f) ?_ _ _ _ ⟨f, rfl, hf, ?_, rfl⟩ ?_
  · rintro c s ⟨g, e, _, _, q⟩
    have : g = [] := List.map_eq_nil_iff.mp e.symm
    subst this
    rw [show c = lnum f from q]; exact h
  · show 1 * 2 ^ f.length ≤ 64
    rw [Nat.one_mul]; exact p64 hf
  · rintro x xs c s ⟨g, e, q1, q2, q4⟩ kn hk
    cases g with
    | nil => cases e
    | cons d g =>
      cases e
      rw [List.length_cons] at q1 q2
      have q0 : 0 < 2 ^ g.length := Nat.pow_pos (by decide)
      have q5 : c.length * 2 * 2 ^ g.length ≤ 64 := by rw [Nat.mul_assoc, Nat.mul_comm 2, ← Nat.pow_succ]; exact q2
      have q6 : c.length * 2 ≤ 64 := Nat.le_trans (Nat.le_mul_of_pos_right _ q0) q5
      refine ⟨hz1000 (by omega), compW_fm (fun n => if (eqB [d] [42]) = true then some ((2 : Int) * n + 1) else none) _ _ _ (fun n hn s kk q => ?_) ⟨hz1000 (by omega), compW_fm (fun n => some ((2 : Int) * n + (if (eqB [d] [49]) then 1 else 0 : Int))) _ _ _ (fun n hn s kk q => ⟨.inl ⟨by decide, by decide⟩, q⟩) ?_⟩⟩
      · split
        · rename_i g; rw [if_pos g] at q; exact ⟨.inl ⟨by decide, by decide⟩, q⟩
        · rename_i g; rw [if_neg g] at q; exact q
      · rw [List.nil_append, List.nil_append]
        have e1 : (c.filterMap fun n => some ((2 : Int) * n + (if (eqB [d] [49]) then 1 else 0 : Int))) = c.map fun n => 2 * n + (if d = 49 then 1 else 0) := by
          rw [List.filterMap_eq_map']
          refine List.map_congr_left fun n _ => ?_
          by_cases g : d = 49 <;> simp [eqB, g]
        have e2 : (c.filterMap fun n => if (eqB [d] [42]) = true then some ((2 : Int) * n + 1) else none) = if d = 42 then c.map (fun n => 2 * n + 1) else [] := by
          by_cases g : d = 42
          · simp [eqB, g]
          · simp [eqB, g]
        rw [e1, e2]
        have l1 : ((c.map fun n => 2 * n + (if d = 49 then (1 : Int) else 0)) ++ if d = 42 then c.map (fun n => 2 * n + 1) else []).length ≤ 2 * c.length := by
          rw [List.length_append, List.length_map]
          split
          · rw [List.length_map]; omega
          · simp; omega
        refine ⟨?_, hk _ _ ⟨g, rfl, by omega, ?_, q4⟩⟩
        · rw [← List.length_append]; exact hz1000 (by omega)
        · refine Nat.le_trans (Nat.mul_le_mul_right _ l1) ?_
          rw [Nat.mul_comm 2]; exact q5
theorem count3 : ∀ f : Text, f.count 48 + f.count 49 + f.count 42 = f.length ↔ isF f
  | [] => by simp [isF]
  | a :: f => by
    have ih := count3 f
    have le : f.count 48 + f.count 49 + f.count 42 ≤ f.length := by
      clear ih
      induction f with
      | nil => simp
      | cons c f ih =>
        rw [List.count_cons, List.count_cons, List.count_cons, List.length_cons]
        by_cases h1 : c = 48
        · subst h1; simp; omega
        · by_cases h2 : c = 49
          · subst h2; simp; omega
          · by_cases h3 : c = 42
            · subst h3; simp; omega
            · simp [h1, h2, h3]; omega
    rw [List.count_cons, List.count_cons, List.count_cons, List.length_cons]
    have hF : isF (a :: f) ↔ (a = 48 ∨ a = 49 ∨ a = 42) ∧ isF f := by simp [isF]
    rw [hF, ← ih]
    by_cases h1 : a = 48
    · subst h1; simp; omega
    · by_cases h2 : a = 49
      · subst h2; simp; omega
      · by_cases h3 : a = 42
        · subst h3; simp; omega
        · simp [h1, h2, h3]; omega
theorem law_isp_by {b : Nat} {z fs : List Text} {C : Bool → Unit → Prop} (hb : b ≤ 6) (hz : z.Sublist (allC b)) (hl : fs.length ≤ 100) (hf : ∀ f ∈ fs, f.length ≤ 1000) (h : C (decide (Part b z fs)) ()) :
    m__law_is_parting (((b : Int), z), fs, ()) () C := by
  have hbig : ∀ z, z ≤ 10000 → z ≤ sizeLine := fun z q => Nat.le_trans q (by decide)
  have zl : z.length ≤ 64 := Nat.le_trans hz.length_le (by rw [allC_length]; exact p64 hb)
  have no : ¬ Part b z fs → C false () := fun q => by rw [decide_eq_false q] at h; exact h
  unfold m__law_is_parting
  dsimp only
  refine forB_by (fun xs (_ : Unit) (_ : Unit) => ∃ done, fs = done ++ xs ∧ Faces b done) ?_ _ _ _ ⟨[], rfl, fun f hf => (by cases hf)⟩ ?_
  · rintro c s ⟨done, e, g⟩
    rw [List.append_nil] at e
    subst e
    refine ⟨⟨by decide, by decide, by omega, by omega⟩, ?_⟩
    refine forB_by (fun xs (_ : Unit) (_ : Unit) => ∃ m : Nat, xs = rg ((m : Int) + 1) (fs.length - 1 - m) ∧ ∀ k, k + 1 < m + 1 → ∀ f g, fs[k]? = some f → fs[k + 1]? = some g → flt f g) ?_ _ _ _ ⟨0, ?_, fun k hk => by omega⟩ ?_
    · rintro c s ⟨m, e, up⟩
      have hm : fs.length - 1 - m = 0 := by have := congrArg List.length e; rw [rg_length] at this; exact this.symm
      have up := rising fun k hk => up k (by omega)
      refine forB_by (fun xs (c : List Int) (_ : Unit) => ∃ done, fs = done ++ xs ∧ c = done.flatMap lnum ∧ c.length ≤ 64 * done.length) ?_ _ _ _ ⟨[], rfl, rfl, Nat.le_refl _⟩ ?_
      · rintro c s ⟨done, e1, e2, _⟩
        rw [List.append_nil] at e1
        subst e1
        refine forB_by (fun xs (c : List Int) (_ : Unit) => ∃ done, z = done ++ xs ∧ c = done.flatMap lnum ∧ c.length ≤ 64 * done.length) ?_ _ _ _ ⟨[], rfl, rfl, Nat.le_refl _⟩ ?_
        · rintro c s ⟨done, e1, e3, _⟩
          rw [List.append_nil] at e1
          subst e1 e2 e3
          have : (eqB (srtE eI (fs.flatMap lnum)) (z.flatMap lnum)) = decide (Part b z fs) := by
            rw [Bool.eq_iff_iff, eqB_iff, decide_eq_true_iff, law_looked hz g]
            exact ⟨fun q => ⟨g, up, q⟩, fun q => q.cs⟩
          rw [this]; exact h
        · rintro cr xs c s ⟨done, e1, e3, e4⟩ kn hk
          have hm : cr ∈ allC b := hz.subset (by rw [e1]; simp)
          have hn : done.length < z.length := by rw [e1]; simp
          have h1 : (lnum cr).length = 1 := by rw [lnum_corner (allC_signs hm)]; rfl
          refine numbers_by (by rw [allC_len hm]; exact hb) ⟨hbig _ (by omega), hk _ _ ⟨done ++ [cr], by rw [e1]; simp, by rw [e3]; simp, ?_⟩⟩
          rw [List.length_append, List.length_append, List.length_singleton]; omega
      · rintro f xs c s ⟨done, e1, e3, e4⟩ kn hk
        have hm : f ∈ fs := by rw [e1]; simp
        have hn : done.length < fs.length := by rw [e1]; simp
        have h1 : (lnum f).length ≤ 64 := by
          rw [(lnum_crn (g f hm).2).length_eq, List.length_map]
          exact Nat.le_trans (crn_le f) (p64 (by rw [(g f hm).1]; exact hb))
        refine numbers_by (by rw [(g f hm).1]; exact hb) ⟨hbig _ (by omega), hk _ _ ⟨done ++ [f], by rw [e1]; simp, by rw [e3]; simp, ?_⟩⟩
        rw [List.length_append, List.length_append, List.length_singleton]; omega
    · show rg 1 _ = rg (0 + 1) _
      congr 1; omega
    · rintro x xs c s ⟨m, e, up⟩ kn hk
      have hm : m + 1 < fs.length := by
        have := congrArg List.length e
        rw [rg_length, List.length_cons] at this; omega
      rw [show fs.length - 1 - m = (fs.length - 1 - (m + 1)) + 1 by omega, rg_succ] at e
      injection e with e1 e2
      subst e1
      have i1 : atI fs ((m : Int) + 1 - 1) = some (fs[m]'(by omega)) := by
        rw [show (m : Int) + 1 - 1 = (m : Int) by omega]; exact atI_nat (by omega)
      have i2 : atI fs ((m : Int) + 1) = some fs[m + 1] := atI_nat hm
      have hx := g _ (List.getElem_mem (show m < fs.length by omega))
      have hy := g _ (List.getElem_mem hm)
      have fdc : ∀ (f : Text) {k : List Int → Unit → Prop}, k (fd f) () → compW (fun (sign21 : Text) (s22 : Unit) (k24 : Option Int → Unit → Prop) => k24 (some ((findT ([48, 49, 42]) sign21))) s22) k (sgs f) () [] := fun f k q => by
        refine compW_fm (fun t => some (findT [48, 49, 42] t)) _ _ _ (fun t ht s kk q => q) ?_
        have e : [] ++ (sgs f).filterMap (fun t => some (findT [48, 49, 42] t)) = fd f := by
          rw [List.nil_append, List.filterMap_eq_map']
          unfold sgs fd
          rw [List.map_map]; rfl
        rw [e]; exact q
      refine ⟨_, i1, hz1000 (by rw [sgs_length]; omega), fdc _ ⟨_, i2, hz1000 (by rw [sgs_length]; omega), fdc _ ?_⟩⟩
      rw [ltLI]
      by_cases q : flt (fs[m]'(by omega)) fs[m + 1]
      · rw [if_neg (by simpa using (fd_lt hx.2 hy.2).mpr q)]
        refine hk _ _ ⟨m + 1, by rw [e2]; rfl, fun k hk2 a b2 ha hb2 => ?_⟩
        by_cases e : k = m
        · subst e
          rw [List.getElem?_eq_getElem (by omega)] at ha hb2
          injection ha with ha
          injection hb2 with hb2
          subst ha hb2; exact q
        · exact up k (by omega) a b2 ha hb2
      · rw [if_pos (by simpa using fun l => q ((fd_lt hx.2 hy.2).mp l))]
        refine no fun p => q ?_
        have := List.pairwise_iff_getElem.mp p.up m (m + 1) (by omega) hm (by omega)
        exact this
  · rintro f xs c s ⟨done, e, g⟩ kn hk
    have hm : f ∈ fs := by rw [e]; simp
    refine ⟨hz1000 (hf f hm), ?_⟩
    have hc : ((!eqB ((f.length : Int)) (b : Int)) || (!eqB ((((cntT f ([48])) + (cntT f ([49]))) + (cntT f ([42])))) (b : Int))) = !decide (f.length = b ∧ isF f) := by
      rw [cntT_one, cntT_one, cntT_one, Bool.eq_iff_iff]
      have := count3 f
      simp only [Bool.or_eq_true, Bool.not_eq_true', eqB, decide_eq_false_iff_not, decide_eq_true_eq]
      rw [← this]
      constructor
      · intro q
        rintro ⟨rfl, q2⟩
        rcases q with q | q
        · exact q rfl
        · exact q (by omega)
      · intro q
        by_cases h1 : f.length = b
        · right
          intro q2
          exact q ⟨h1, by omega⟩
        · left
          intro q2
          exact h1 (by omega)
    rw [hc]
    by_cases q : f.length = b ∧ isF f
    · rw [if_neg (by simpa using q)]
      refine hk _ _ ⟨done ++ [f], by rw [e]; simp, fun x hx => ?_⟩
      rcases List.mem_append.mp hx with hx | hx
      · exact g x hx
      · rw [List.mem_singleton.mp hx]; exact q
    · rw [if_pos (by rw [decide_eq_false q]; rfl)]
      exact no fun p => q (p.fc f hm)
theorem mem_set2 {α : Type} {l : List α} {n m : Nat} {a b x : α} (h : x ∈ (l.set n a).set m b) : x ∈ l ∨ x = a ∨ x = b := by
  rcases List.mem_or_eq_of_mem_set h with h | h
  · rcases List.mem_or_eq_of_mem_set h with h | h
    · exact .inl h
    · exact .inr (.inl h)
  · exact .inr (.inr h)
theorem atI_mem' {α : Type} {xs : List α} {i : Int} (h0 : 0 ≤ i) (h1 : i < xs.length) : ∃ y, atI xs i = some y ∧ y ∈ xs := ⟨_, atI_of h0 h1, List.getElem_mem _⟩
theorem ixN_in {n : Nat} {i : Int} (h0 : 0 ≤ i) (h1 : i < n) : ∃ j, ixN n i = some j ∧ j < n := ⟨_, ixN_of h0 h1, by omega⟩
theorem spoilt_by {b n L : Nat} {fs : List Text} {C : List Text → Nat → Prop} (hb0 : 1 ≤ b) (hb : b ≤ 6) (hbL : b ≤ L) (hL : L ≤ 400) (hl : fs.length ≤ 100) (hf : ∀ f ∈ fs, f.length ≤ L) (hn : n + 100 < 2 ^ 40)
    (h : ∀ gs n', gs.length ≤ 80 → (∀ f ∈ gs, f.length ≤ L + 1) → n' ≤ n + 50 → C gs n') : m__law_spoilt (fs, (b : Int), ()) n C := by
  unfold m__law_spoilt
  dsimp only
  refine ⟨by dsimp only; omega, by dsimp only; omega, by omega, fun r69 a0 a1 => ⟨by decide, by decide, by omega, fun r71 b0 b1 => ?_⟩⟩
  dsimp only at a1 b1
  obtain ⟨y68, hy68, u0, u1⟩ : ∃ y, atI ([r69, (max2 (0 : Int) (((fs.length : Int) - (1 : Int)))), (0 : Int)]) r71 = some y ∧ 0 ≤ y ∧ y ≤ (fs.length : Int) := by
    have : max2 (0 : Int) ((fs.length : Int) - 1) = max 0 ((fs.length : Int) - 1) := by unfold max2; omega
    obtain rfl | rfl | rfl : r71 = 0 ∨ r71 = 1 ∨ r71 = 2 := by omega
    · exact ⟨_, rfl, a0, by omega⟩
    · exact ⟨_, rfl, by omega, by omega⟩
    · exact ⟨_, rfl, by omega, by omega⟩
  obtain ⟨u, rfl⟩ := Int.eq_ofNat_of_zero_le u0
  have mo : MulOk [42] (b : Int) := ⟨by decide, by omega, by omega⟩
  have A1 := cut_len fs none (some (u : Int))
  have A2 := cut_len fs (some ((u : Int) + 1)) none
  have A3 := cut_len fs (some (u : Int)) none
  have A4 := cut_len fs (some (u : Int)) (some ((u : Int) + 1))
  have hm : ∀ lo hi, ∀ f ∈ cutG fs lo hi, f.length ≤ L := fun lo hi f q => hf f (cut_mem q)
  refine ⟨_, hy68, by dsimp only; omega, by dsimp only; omega, by omega, fun r66 c0 c1 => ⟨mo, hz1000 (by simp only [List.length_cons, List.length_nil]; omega), ?_⟩⟩
  dsimp only at c1
  rw [star_text]
  obtain ⟨y65, hy65, y65m⟩ := atI_mem' (xs := cutG fs (some (u : Int)) none ++ [List.replicate b 42]) (i := 0) (by omega) (by simp)
  have y65l : y65.length ≤ L := by
    rcases List.mem_append.mp y65m with q | q
    · exact hm _ _ _ q
    · rw [List.mem_singleton.mp q, List.length_replicate]; exact hbL
  refine ⟨y65, hy65, by dsimp only; omega, by dsimp only; omega, by omega, fun r63 d0 d1 => ⟨by decide, by decide, by omega, fun r61 e0 e1 => ⟨by decide, ?_⟩⟩⟩
  dsimp only at d1 e1
  obtain ⟨c60, hc60, _⟩ := atI_mem' (xs := [48, 49, 42, 48, 49, 42, 50, 32, 45, 97]) (i := r61) e0 (by simpa using e1)
  obtain ⟨v, rfl⟩ := Int.eq_ofNat_of_zero_le d0
  have B1 := cut_len y65 none (some (v : Int))
  have B2 := cut_len y65 (some ((v : Int) + 1)) none
  have B3 := cut_len y65 none (some (-(1 : Int)))
  have B12 : (cutG y65 none (some (v : Int))).length + (cutG y65 (some ((v : Int) + 1)) none).length ≤ y65.length := by
    rw [cut_take, cut_drop1, List.length_take, List.length_drop]; omega
  have zy : y65.length ≤ sizeLine := hz1000 (by omega)
  have z1 : ∀ c : Nat, (cutG y65 none (some (v : Int))).length + ([c] : Text).length ≤ sizeLine := fun c => hz1000 (by simp only [List.length_cons, List.length_nil]; omega)
  have z2 : ∀ c : Nat, (cutG y65 none (some (v : Int)) ++ ([c] : Text)).length + (cutG y65 (some ((v : Int) + 1)) none).length ≤ sizeLine := fun c => hz1000 (by simp only [List.length_append, List.length_cons, List.length_nil]; omega)
  have pl : ∀ c : Nat, (cutG y65 none (some (v : Int)) ++ ([c] : Text) ++ cutG y65 (some ((v : Int) + 1)) none).length ≤ L + 1 := fun c => by
    simp only [List.length_append, List.length_cons, List.length_nil]; omega
  refine ⟨c60, hc60, zy, z1 _, zy, z2 _, zy, z1 _, zy, z2 _, zy, z1 _, zy, z2 _, hz1000 (by simp only [List.length_cons, List.length_nil]; omega), zy, zy, mo, ?_⟩
  refine law_face_by (by omega) (by omega) fun r56 r56l _ => ⟨by decide, by decide, by omega, fun r58 f0 f1 => ?_⟩
  dsimp only at f1
  obtain ⟨y55, hy55, y55m⟩ := atI_mem' (xs := [(((cutG y65 none (some (v : Int))) ++ [c60]) ++ (cutG y65 (some (((v : Int) + (1 : Int)))) none)), (((cutG y65 none (some (v : Int))) ++ [c60]) ++ (cutG y65 (some (((v : Int) + (1 : Int)))) none)), ([] : Text), (y65 ++ [48]), (cutG y65 none (some ((-(1 : Int))))), y65.reverse, List.replicate b 42, r56]) (i := r58) f0 (by simpa using f1)
  have y55l : y55.length ≤ L + 1 := by
    have p0 := pl c60
    simp only [List.mem_cons, List.not_mem_nil, or_false] at y55m
    rcases y55m with rfl | rfl | rfl | rfl | rfl | rfl | rfl | rfl
    · exact p0
    · exact p0
    · exact Nat.zero_le _
    · simp only [List.length_append, List.length_cons, List.length_nil]; omega
    · omega
    · rw [List.length_reverse]; omega
    · rw [List.length_replicate]; omega
    · omega
  refine ⟨y55, hy55, ?_⟩
  have zz : ∀ {x y z w : Nat}, x ≤ 200 → y ≤ 200 → x + y ≤ sizeLine := fun a b => hz1000 (by omega)
  refine ⟨hz1000 (by simp only [List.length_cons, List.length_nil]; omega), hz1000 (by simp only [List.length_append, List.length_cons, List.length_nil]; omega), hz1000 (by simp only [List.length_cons, List.length_nil]; omega), hz1000 (by simp only [List.length_append, List.length_cons, List.length_nil]; omega), hz1000 (by omega),
    hz1000 (by simp only [List.length_cons, List.length_nil]; omega), hz1000 (by simp only [List.length_append, List.length_cons, List.length_nil]; omega), hz1000 (by omega), hz1000 (by simp only [List.length_append]; omega), (by show 6 ≤ sizeLine; decide), ?_⟩
  refine jn_by (fun z s => s ≤ n + 20 ∧ ∀ f ∈ z, f.length ≤ L) ?_ ?_
  · intro kj hj
    by_cases fe : fs = []
    · rw [if_neg (by simp [eqB, fe])]
      exact hj _ _ ⟨by omega, hf⟩
    · rw [if_pos (by simp [eqB, fe])]
      have fl : 0 < fs.length := List.length_pos_iff.mpr fe
      have m1 : 0 ≤ min2 (u : Int) ((fs.length : Int) - 1) ∧ min2 (u : Int) ((fs.length : Int) - 1) < fs.length := by unfold min2; split <;> omega
      have m2 : 0 ≤ min2 r66 ((fs.length : Int) - 1) ∧ min2 r66 ((fs.length : Int) - 1) < fs.length := by unfold min2; split <;> omega
      obtain ⟨x1, hx1, x1m⟩ := atI_mem' (xs := fs) m1.1 m1.2
      obtain ⟨x2, hx2, x2m⟩ := atI_mem' (xs := fs) m2.1 m2.2
      obtain ⟨i1, hi1, _⟩ := ixN_in m1.1 m1.2
      obtain ⟨i2, hi2, _⟩ := ixN_in m2.1 m2.2
      refine ⟨x2, hx2, x1, hx1, i1, hi1, i2, hi2, hj _ _ ⟨by omega, fun f hm2 => ?_⟩⟩
      rcases mem_set2 hm2 with q | q | q
      · exact hf f q
      · rw [q]; exact hf _ x2m
      · rw [q]; exact hf _ x1m
  · rintro z s ⟨sl, zl⟩
    refine ⟨_, rfl, hz1000 (by simp only [List.length_append, List.length_cons, List.length_nil]; omega), ?_⟩
    have pm : ∀ f ∈ (cutG fs none (some (u : Int)) ++ [y55]) ++ cutG fs (some ((u : Int) + 1)) none, f.length ≤ L + 1 := fun f q => by
      rcases List.mem_append.mp q with q | q
      · rcases List.mem_append.mp q with q | q
        · exact Nat.le_succ_of_le (hm _ _ _ q)
        · rw [List.mem_singleton.mp q]; exact y55l
      · exact Nat.le_succ_of_le (hm _ _ _ q)
    refine compW_fm (fun one => if (decide ((0 : Int) ≤ (findT ([48, 49, 42]) ((cutG one none (some (1 : Int))))))) = true then some one else none) _ _ _ (fun one hone s kk q => ⟨hz1000 (by have := pm one hone; omega), ?_⟩) ?_
    · split
      · rename_i g; rw [if_pos g] at q; exact q
      · rename_i g; rw [if_neg g] at q; exact q
    · rw [List.nil_append]
      have fm : ∀ {l : List Text} {p : Text → Bool}, (l.filterMap fun one => if p one = true then some one else none).Sublist l := fun {l p} => by
        have : (l.filterMap fun one => if p one = true then some one else none) = l.filter p := by rw [← List.filterMap_eq_filter]; rfl
        rw [this]; exact List.filter_sublist
      refine law_sorted_by (Nat.le_trans fm.length_le (by simp only [List.length_append, List.length_cons, List.length_nil]; omega)) (fun f q => by have := pm f (fm.subset q); omega) fun gs gp _ => ?_
      refine ⟨(by show 8 ≤ sizeLine; decide), by decide, by decide, by omega, fun r50 g0 g1 => ?_⟩
      dsimp only at g1
      obtain ⟨w, hw, wm⟩ := atI_mem' (xs := [(((cutG fs none (some (u : Int))) ++ [y55]) ++ (cutG fs (some (((u : Int) + (1 : Int)))) none)), (((cutG fs none (some (u : Int))) ++ [y55]) ++ (cutG fs (some (u : Int)) none)), ((cutG fs none (some (u : Int))) ++ (cutG fs (some (((u : Int) + (1 : Int)))) none))] ++ [(((cutG fs none (some (u : Int))) ++ [(((cutG y65 none (some (v : Int))) ++ [48]) ++ (cutG y65 (some (((v : Int) + (1 : Int)))) none)), (((cutG y65 none (some (v : Int))) ++ [49]) ++ (cutG y65 (some (((v : Int) + (1 : Int)))) none))]) ++ (cutG fs (some (((u : Int) + (1 : Int)))) none)), (((cutG fs none (some (u : Int))) ++ (cutG fs (some (u : Int)) (some (((u : Int) + (1 : Int)))))) ++ (cutG fs (some (u : Int)) none)), fs.reverse] ++ [z, gs]) (i := r50) g0 (by simpa using g1)
      refine ⟨w, hw, ?_⟩
      rw [show (80 : Int) = ((80 : Nat) : Int) from rfl, cut_take]
      refine h _ _ (by rw [List.length_take]; omega) (fun f q => ?_) (by omega)
      have q := List.mem_of_mem_take q
      have hm' : ∀ lo hi, ∀ f ∈ cutG fs lo hi, f.length ≤ L + 1 := fun lo hi f q => Nat.le_succ_of_le (hm lo hi f q)
      simp only [List.cons_append, List.nil_append, List.mem_cons, List.not_mem_nil, or_false] at wm
      rcases wm with rfl | rfl | rfl | rfl | rfl | rfl | rfl | rfl
      · exact pm f q
      · rcases List.mem_append.mp q with q | q
        · rcases List.mem_append.mp q with q | q
          · exact hm' _ _ _ q
          · rw [List.mem_singleton.mp q]; exact y55l
        · exact hm' _ _ _ q
      · rcases List.mem_append.mp q with q | q
        · exact hm' _ _ _ q
        · exact hm' _ _ _ q
      · rcases List.mem_append.mp q with q | q
        · rcases List.mem_append.mp q with q | q
          · exact hm' _ _ _ q
          · simp only [List.mem_cons, List.not_mem_nil, or_false] at q
            rcases q with rfl | rfl
            · exact pl 48
            · exact pl 49
        · exact hm' _ _ _ q
      · rcases List.mem_append.mp q with q | q
        · rcases List.mem_append.mp q with q | q
          · exact hm' _ _ _ q
          · exact hm' _ _ _ q
        · exact hm' _ _ _ q
      · exact Nat.le_succ_of_le (hf f (List.mem_reverse.mp q))
      · exact Nat.le_succ_of_le (zl f q)
      · exact pm f (fm.subset (gp.mem_iff.mp q))
theorem right_by {b : Nat} {z fs : List Text} {C : Bool → Unit → Prop} (hb : b ≤ 6) (hz : z.Sublist (allC b)) (hl : fs.length ≤ 100) (hf : ∀ f ∈ fs, f.length ≤ 1000) (h : C true ()) : m__law_right (((b : Int), z), fs, ()) () C := by
  unfold m__law_right
  dsimp only
  refine law_isp_by hb hz hl hf ⟨⟨by decide, by decide⟩, ?_⟩
  refine forB_by (fun _ _ _ => True) (fun _ _ _ => h) _ _ _ trivial ?_
  intro x xs c s _ kn hk
  refine is_parting_by hb hz hl hf ?_
  rw [if_neg (by simp [eqB])]
  exact hk _ _ trivial
theorem law_true (ns : List Int) (hl : ns.length ≤ 63) : m_law (ns, ()) () fun y _ => y = true := by
  refine deck_ok hl fun y0 hy0 => ⟨hy0, ⟨by decide, by decide⟩, ?_⟩
  refine forB_by (fun xs (_ : Unit) (s : Nat) => s + 2000 * xs.length ≤ 8000) ?_ _ _ _ (by rw [rg_length]; decide) ?_
  · intro c s _
    refine jn_by (fun r (_ : Nat) => r = true) (fun kj hj => ?_) (fun r s e => e)
    refine is_parting_by (b := 1) (z := [[48], [49]]) (by decide) (by decide) (by decide) (by decide) ?_
    rw [if_pos (by decide)]
    refine is_parting_by (b := 2) (z := [[48, 48], [48, 49]]) (by decide) (by decide) (by decide) (by decide) ?_
    exact hj _ _ (by decide)
  · rintro x xs _ s q kn hk
    rw [List.length_cons] at q
    refine law_bits_by (by omega) fun r r1 r2 => ?_
    obtain ⟨b, rfl⟩ := Int.eq_ofNat_of_zero_le (show 0 ≤ r by omega)
    have hb : b ≤ 6 := by omega
    have hb1 : 1 ≤ b := by omega
    refine set_by hb (by omega) fun z n' hz hn => ⟨by decide, by decide, by omega, fun r58 a0 a1 => ⟨by decide, by decide, by omega, fun r60 b0 b1 => ⟨by decide, by decide, by omega, fun r62 c0 c1 => ?_⟩⟩⟩
    dsimp only at a1 b1 c1
    obtain ⟨t, ht, t0, t1⟩ : ∃ y, atI [r58, r60, (200 : Int)] r62 = some y ∧ 0 ≤ y ∧ y ≤ 200 := by
      obtain rfl | rfl | rfl : r62 = 0 ∨ r62 = 1 ∨ r62 = 2 := by omega
      · exact ⟨_, rfl, a0, by omega⟩
      · exact ⟨_, rfl, b0, by omega⟩
      · exact ⟨_, rfl, by omega, by omega⟩
    have cp := corners_part hz
    have zl : z.length ≤ 64 := Nat.le_trans hz.length_le (by rw [allC_length]; exact p64 hb)
    refine ⟨t, ht, ?_⟩
    dsimp only
    refine (coarser_by (fs := z) (by omega) cp.fc (by omega) t0 (by omega) (by omega) fun gs n2 hc hn2 => ?_)
    obtain ⟨f1, f2, _⟩ := hc.faces cp.fc
    have sl : (srtF gs).length ≤ 64 := by rw [srtF_len]; omega
    have sm : ∀ f ∈ srtF gs, f.length ≤ b := fun f hf => Nat.le_of_eq (f1 f ((srtF_perm gs).mem_iff.mp hf)).1
    refine ⟨⟨by decide, by omega, by omega⟩, ⟨by decide, by decide⟩, ?_⟩
    rw [star_text]
    refine forB_by (fun xs (c : List (List Text)) (s' : Nat) => c.length + 2 * xs.length ≤ 16 ∧ (∀ w ∈ c, w.length ≤ 100 ∧ ∀ f ∈ w, f.length ≤ 1000) ∧ s' + 100 * xs.length ≤ n2 + 600) ?_ _ _ _ ⟨?_, ?_, ?_⟩ ?_
    · rintro c s' ⟨g1, g2, g3⟩
      rw [show (1 : Int) = ((1 : Nat) : Int) from rfl, cut_drop]
      refine forB_by (fun xs (_ : Unit) (s'' : Nat) => s'' = s' ∧ ∀ p ∈ xs, p.2 ∈ c) ?_ _ _ _ ⟨rfl, fun p hp => ?_⟩ ?_
      · rintro c2 s'' ⟨rfl, _⟩
        simp only [List.length_nil] at g3
        exact hk _ _ (by omega)
      · obtain ⟨i, hi⟩ := List.getElem?_of_mem hp
        exact List.mem_of_getElem? (enI_get hi).2
      · rintro p xs' _ s'' ⟨rfl, q2⟩ kn2 hk2
        obtain ⟨w1, w2⟩ := g2 _ (q2 p List.mem_cons_self)
        refine jn_by (fun r s => r = false ∧ s = s'') (fun kj hj => ?_) ?_
        · refine right_by hb hz w1 w2 ?_
          rw [if_neg (by decide)]
          refine jn_by (fun r s => r = false ∧ s = s'') (fun kj2 hj2 => ?_) ?_
          · refine ⟨by decide, ?_⟩
            split
            · exact right_by hb ((List.drop_sublist _ _).trans hz) w1 w2 (hj2 _ _ ⟨rfl, rfl⟩)
            · exact hj2 _ _ ⟨rfl, rfl⟩
          · rintro r s ⟨rfl, rfl⟩
            exact hj _ _ ⟨rfl, rfl⟩
        · rintro r s ⟨rfl, rfl⟩
          rw [if_neg (by decide)]
          exact hk2 _ _ ⟨rfl, fun p hp => q2 p (List.mem_cons_of_mem _ hp)⟩
    · rw [rg_length]; show 4 + 2 * 6 ≤ 16; decide
    · intro w hw
      simp only [List.mem_cons, List.not_mem_nil, or_false] at hw
      rcases hw with rfl | rfl | rfl | rfl
      · exact ⟨by omega, fun f hf => by have := sm f hf; omega⟩
      · exact ⟨by decide, fun f hf => by cases hf⟩
      · exact ⟨by show 1 ≤ 100; decide, fun f hf => by rw [List.mem_singleton.mp hf, List.length_replicate]; omega⟩
      · exact ⟨by omega, fun f hf => by rw [(cp.fc f hf).1]; omega⟩
    · rw [rg_length]; exact Nat.le_refl _
    · rintro k ks c s' ⟨g1, g2, g3⟩ kn2 hk2
      rw [List.length_cons] at g1 g3
      refine spoilt_by (L := b) hb1 hb (Nat.le_refl _) (by omega) (by omega) sm (by omega) fun w1 n3 a1 a2 a3 => ?_
      refine spoilt_by (L := b + 1) hb1 hb (by omega) (by omega) (by omega) a2 (by omega) fun w2 n4 e1 e2 e3 => ⟨hz1000 (by show c.length + 2 ≤ 1000; omega), hk2 _ _ ⟨?_, fun w hw => ?_, by omega⟩⟩
      · rw [List.length_append]
        show c.length + 2 + 2 * ks.length ≤ 16
        omega
      · rcases List.mem_append.mp hw with hw | hw
        · exact g2 w hw
        · simp only [List.mem_cons, List.not_mem_nil, or_false] at hw
          rcases hw with rfl | rfl
          · exact ⟨by omega, fun f hf => by have := a2 f hf; omega⟩
          · exact ⟨by omega, fun f hf => by have := e2 f hf; omega⟩
end G

set_option Elab.async false
set_option linter.all false
set_option maxRecDepth 100000
set_option maxHeartbeats 4000000
namespace G
open PySem PySem.Spec PyProof.Rows L2 Sm
theorem all_mk {l : PySem.W.OpenLaw} {w : World} {K : PySem.W.Frag} {h : Heap} {mg : Str → Option Value} {fa f1 f2 f3 f4 f5 f6 f7 f8 f9 f10 f11 f12 f13 f14 f15 f16 f17 f18 f19 f20 f21 : Addr} (X : K.In h) (G : h.Ns mainGlobals mg) (hfa : mg "law" = some (.ref fa))
    {od1 an1 od2 an2 od3 an3 od4 an4 od5 an5 od6 an6 od7 an7 od8 an8 od9 an9 od10 an10 od11 an11 od12 an12 od13 an13 od14 an14 od15 an15 od16 an16 od17 an17 od18 an18 od19 an19 od20 an20 od21 an21 : Option Addr} {sl1 sl2 sl3 sl4 sl5 sl6 sl7 sl8 sl9 sl10 sl11 sl12 sl13 sl14 sl15 sl16 sl17 sl18 sl19 sl20 sl21 : Array (Option Value)} {oc1 kV1 dc1 pm1 cd1 ct1 oc2 kV2 dc2 pm2 cd2 ct2 oc3 kV3 dc3 pm3 cd3 ct3 oc4 kV4 dc4 pm4 cd4 ct4 oc5 kV5 dc5 pm5 cd5 ct5 oc6 kV6 dc6 pm6 cd6 ct6 oc7 kV7 dc7 pm7 cd7 ct7 oc8 kV8 dc8 pm8 cd8 ct8 oc9 kV9 dc9 pm9 cd9 ct9 oc10 kV10 dc10 pm10 cd10 ct10 oc11 kV11 dc11 pm11 cd11 ct11 oc12 kV12 dc12 pm12 cd12 ct12 oc13 kV13 dc13 pm13 cd13 ct13 oc14 kV14 dc14 pm14 cd14 ct14 oc15 kV15 dc15 pm15 cd15 ct15 oc16 kV16 dc16 pm16 cd16 ct16 oc17 kV17 dc17 pm17 cd17 ct17 oc18 kV18 dc18 pm18 cd18 ct18 oc19 kV19 dc19 pm19 cd19 ct19 oc20 kV20 dc20 pm20 cd20 ct20 oc21 kV21 dc21 pm21 cd21 ct21 : Value}
    (a1 : PySem.W.nsIn K mainGlobals "order_of" = some (some (.ref f1))) (l1 : K.lookup f1 = some ⟨oc1, od1, .func (PySem.W.fnOf "order_of" "order_of" (defArgs s_order_of) (defBody s_order_of) (defScope s_order_of) .none kV1 dc1 pm1 an1 cd1 ct1), sl1⟩) (c1 : PySem.W.codeIn K cd1 "order_of" = true) (k1 : PySem.W.keepIn K (.ref f1) = true)
    (a2 : PySem.W.nsIn K mainGlobals "in_order" = some (some (.ref f2))) (l2 : K.lookup f2 = some ⟨oc2, od2, .func (PySem.W.fnOf "in_order" "in_order" (defArgs s_in_order) (defBody s_in_order) (defScope s_in_order) .none kV2 dc2 pm2 an2 cd2 ct2), sl2⟩) (c2 : PySem.W.codeIn K cd2 "in_order" = true) (k2 : PySem.W.keepIn K (.ref f2) = true)
    (a3 : PySem.W.nsIn K mainGlobals "corners_of" = some (some (.ref f3))) (l3 : K.lookup f3 = some ⟨oc3, od3, .func (PySem.W.fnOf "corners_of" "corners_of" (defArgs s_corners_of) (defBody s_corners_of) (defScope s_corners_of) .none kV3 dc3 pm3 an3 cd3 ct3), sl3⟩) (c3 : PySem.W.codeIn K cd3 "corners_of" = true) (k3 : PySem.W.keepIn K (.ref f3) = true)
    (a4 : PySem.W.nsIn K mainGlobals "is_face" = some (some (.ref f4))) (l4 : K.lookup f4 = some ⟨oc4, od4, .func (PySem.W.fnOf "is_face" "is_face" (defArgs s_is_face) (defBody s_is_face) (defScope s_is_face) .none kV4 dc4 pm4 an4 cd4 ct4), sl4⟩) (c4 : PySem.W.codeIn K cd4 "is_face" = true) (k4 : PySem.W.keepIn K (.ref f4) = true)
    (a5 : PySem.W.nsIn K mainGlobals "is_parting" = some (some (.ref f5))) (l5 : K.lookup f5 = some ⟨oc5, od5, .func (PySem.W.fnOf "is_parting" "is_parting" (defArgs s_is_parting) (defBody s_is_parting) (defScope s_is_parting) .none kV5 dc5 pm5 an5 cd5 ct5), sl5⟩) (c5 : PySem.W.codeIn K cd5 "is_parting" = true) (k5 : PySem.W.keepIn K (.ref f5) = true)
    (a6 : PySem.W.nsIn K mainGlobals "_law_mix" = some (some (.ref f6))) (l6 : K.lookup f6 = some ⟨oc6, od6, .func (PySem.W.fnOf "_law_mix" "_law_mix" (defArgs s__law_mix) (defBody s__law_mix) (defScope s__law_mix) .none kV6 dc6 pm6 an6 cd6 ct6), sl6⟩) (c6 : PySem.W.codeIn K cd6 "_law_mix" = true) (k6 : PySem.W.keepIn K (.ref f6) = true)
    (a7 : PySem.W.nsIn K mainGlobals "_law_deck" = some (some (.ref f7))) (l7 : K.lookup f7 = some ⟨oc7, od7, .func (PySem.W.fnOf "_law_deck" "_law_deck" (defArgs s__law_deck) (defBody s__law_deck) (defScope s__law_deck) .none kV7 dc7 pm7 an7 cd7 ct7), sl7⟩) (c7 : PySem.W.codeIn K cd7 "_law_deck" = true) (k7 : PySem.W.keepIn K (.ref f7) = true)
    (a8 : PySem.W.nsIn K mainGlobals "_law_next" = some (some (.ref f8))) (l8 : K.lookup f8 = some ⟨oc8, od8, .func (PySem.W.fnOf "_law_next" "_law_next" (defArgs s__law_next) (defBody s__law_next) (defScope s__law_next) .none kV8 dc8 pm8 an8 cd8 ct8), sl8⟩) (c8 : PySem.W.codeIn K cd8 "_law_next" = true) (k8 : PySem.W.keepIn K (.ref f8) = true)
    (a9 : PySem.W.nsIn K mainGlobals "_law_bits" = some (some (.ref f9))) (l9 : K.lookup f9 = some ⟨oc9, od9, .func (PySem.W.fnOf "_law_bits" "_law_bits" (defArgs s__law_bits) (defBody s__law_bits) (defScope s__law_bits) .none kV9 dc9 pm9 an9 cd9 ct9), sl9⟩) (c9 : PySem.W.codeIn K cd9 "_law_bits" = true) (k9 : PySem.W.keepIn K (.ref f9) = true)
    (a10 : PySem.W.nsIn K mainGlobals "_law_face" = some (some (.ref f10))) (l10 : K.lookup f10 = some ⟨oc10, od10, .func (PySem.W.fnOf "_law_face" "_law_face" (defArgs s__law_face) (defBody s__law_face) (defScope s__law_face) .none kV10 dc10 pm10 an10 cd10 ct10), sl10⟩) (c10 : PySem.W.codeIn K cd10 "_law_face" = true) (k10 : PySem.W.keepIn K (.ref f10) = true)
    (a11 : PySem.W.nsIn K mainGlobals "_law_all" = some (some (.ref f11))) (l11 : K.lookup f11 = some ⟨oc11, od11, .func (PySem.W.fnOf "_law_all" "_law_all" (defArgs s__law_all) (defBody s__law_all) (defScope s__law_all) .none kV11 dc11 pm11 an11 cd11 ct11), sl11⟩) (c11 : PySem.W.codeIn K cd11 "_law_all" = true) (k11 : PySem.W.keepIn K (.ref f11) = true)
    (a12 : PySem.W.nsIn K mainGlobals "_law_lies" = some (some (.ref f12))) (l12 : K.lookup f12 = some ⟨oc12, od12, .func (PySem.W.fnOf "_law_lies" "_law_lies" (defArgs s__law_lies) (defBody s__law_lies) (defScope s__law_lies) .none kV12 dc12 pm12 an12 cd12 ct12), sl12⟩) (c12 : PySem.W.codeIn K cd12 "_law_lies" = true) (k12 : PySem.W.keepIn K (.ref f12) = true)
    (a13 : PySem.W.nsIn K mainGlobals "_law_set" = some (some (.ref f13))) (l13 : K.lookup f13 = some ⟨oc13, od13, .func (PySem.W.fnOf "_law_set" "_law_set" (defArgs s__law_set) (defBody s__law_set) (defScope s__law_set) .none kV13 dc13 pm13 an13 cd13 ct13), sl13⟩) (c13 : PySem.W.codeIn K cd13 "_law_set" = true) (k13 : PySem.W.keepIn K (.ref f13) = true)
    (a14 : PySem.W.nsIn K mainGlobals "_law_sorted" = some (some (.ref f14))) (l14 : K.lookup f14 = some ⟨oc14, od14, .func (PySem.W.fnOf "_law_sorted" "_law_sorted" (defArgs s__law_sorted) (defBody s__law_sorted) (defScope s__law_sorted) .none kV14 dc14 pm14 an14 cd14 ct14), sl14⟩) (c14 : PySem.W.codeIn K cd14 "_law_sorted" = true) (k14 : PySem.W.keepIn K (.ref f14) = true)
    (a15 : PySem.W.nsIn K mainGlobals "_law_one_of" = some (some (.ref f15))) (l15 : K.lookup f15 = some ⟨oc15, od15, .func (PySem.W.fnOf "_law_one_of" "_law_one_of" (defArgs s__law_one_of) (defBody s__law_one_of) (defScope s__law_one_of) .none kV15 dc15 pm15 an15 cd15 ct15), sl15⟩) (c15 : PySem.W.codeIn K cd15 "_law_one_of" = true) (k15 : PySem.W.keepIn K (.ref f15) = true)
    (a16 : PySem.W.nsIn K mainGlobals "_law_coarser" = some (some (.ref f16))) (l16 : K.lookup f16 = some ⟨oc16, od16, .func (PySem.W.fnOf "_law_coarser" "_law_coarser" (defArgs s__law_coarser) (defBody s__law_coarser) (defScope s__law_coarser) .none kV16 dc16 pm16 an16 cd16 ct16), sl16⟩) (c16 : PySem.W.codeIn K cd16 "_law_coarser" = true) (k16 : PySem.W.keepIn K (.ref f16) = true)
    (a17 : PySem.W.nsIn K mainGlobals "_law_numbers" = some (some (.ref f17))) (l17 : K.lookup f17 = some ⟨oc17, od17, .func (PySem.W.fnOf "_law_numbers" "_law_numbers" (defArgs s__law_numbers) (defBody s__law_numbers) (defScope s__law_numbers) .none kV17 dc17 pm17 an17 cd17 ct17), sl17⟩) (c17 : PySem.W.codeIn K cd17 "_law_numbers" = true) (k17 : PySem.W.keepIn K (.ref f17) = true)
    (a18 : PySem.W.nsIn K mainGlobals "_law_is_parting" = some (some (.ref f18))) (l18 : K.lookup f18 = some ⟨oc18, od18, .func (PySem.W.fnOf "_law_is_parting" "_law_is_parting" (defArgs s__law_is_parting) (defBody s__law_is_parting) (defScope s__law_is_parting) .none kV18 dc18 pm18 an18 cd18 ct18), sl18⟩) (c18 : PySem.W.codeIn K cd18 "_law_is_parting" = true) (k18 : PySem.W.keepIn K (.ref f18) = true)
    (a19 : PySem.W.nsIn K mainGlobals "_law_spoilt" = some (some (.ref f19))) (l19 : K.lookup f19 = some ⟨oc19, od19, .func (PySem.W.fnOf "_law_spoilt" "_law_spoilt" (defArgs s__law_spoilt) (defBody s__law_spoilt) (defScope s__law_spoilt) .none kV19 dc19 pm19 an19 cd19 ct19), sl19⟩) (c19 : PySem.W.codeIn K cd19 "_law_spoilt" = true) (k19 : PySem.W.keepIn K (.ref f19) = true)
    (a20 : PySem.W.nsIn K mainGlobals "_law_right" = some (some (.ref f20))) (l20 : K.lookup f20 = some ⟨oc20, od20, .func (PySem.W.fnOf "_law_right" "_law_right" (defArgs s__law_right) (defBody s__law_right) (defScope s__law_right) .none kV20 dc20 pm20 an20 cd20 ct20), sl20⟩) (c20 : PySem.W.codeIn K cd20 "_law_right" = true) (k20 : PySem.W.keepIn K (.ref f20) = true)
    (a21 : PySem.W.nsIn K mainGlobals "law" = some (some (.ref f21))) (l21 : K.lookup f21 = some ⟨oc21, od21, .func (PySem.W.fnOf "law" "law" (defArgs s_law) (defBody s_law) (defScope s_law) .none kV21 dc21 pm21 an21 cd21 ct21), sl21⟩) (c21 : PySem.W.codeIn K cd21 "law" = true) (k21 : PySem.W.keepIn K (.ref f21) = true)
    {t_SIGNS : Tok} (q_SIGNS : PySem.W.nsIn K mainGlobals "SIGNS" = some (some (.str ⟨[48, 49, 42].toArray⟩ t_SIGNS)))
    (z_bool : PySem.W.nsIn K mainGlobals "bool" = some none) (z_enumerate : PySem.W.nsIn K mainGlobals "enumerate" = some none) (z_int : PySem.W.nsIn K mainGlobals "int" = some none) (z_isinstance : PySem.W.nsIn K mainGlobals "isinstance" = some none) (z_len : PySem.W.nsIn K mainGlobals "len" = some none) (z_list : PySem.W.nsIn K mainGlobals "list" = some none) (z_max : PySem.W.nsIn K mainGlobals "max" = some none) (z_min : PySem.W.nsIn K mainGlobals "min" = some none) (z_range : PySem.W.nsIn K mainGlobals "range" = some none) (z_sorted : PySem.W.nsIn K mainGlobals "sorted" = some none) (z_str : PySem.W.nsIn K mainGlobals "str" = some none) (z_sum : PySem.W.nsIn K mainGlobals "sum" = some none) (z_tuple : PySem.W.nsIn K mainGlobals "tuple" = some none) :
    ∃ fd : FuncData, (∀ (s : Shared) (v : Value), BindsTo s fd ⟨[v], []⟩ [("script", v)]) ∧ ∀ base : Heap, K.In base → base.Ns mainGlobals mg → FnOk l.prog w K mg base CX0 5 fa fd ["script"] (sp_law K) := by
  have e := hfa.symm.trans (PySem.W.mg_of X G a21)
  cases e
  have B : Bl mg := ⟨PySem.W.mg_none_of X G z_bool, PySem.W.mg_none_of X G z_enumerate, PySem.W.mg_none_of X G z_int, PySem.W.mg_none_of X G z_isinstance, PySem.W.mg_none_of X G z_len, PySem.W.mg_none_of X G z_list, PySem.W.mg_none_of X G z_max, PySem.W.mg_none_of X G z_min, PySem.W.mg_none_of X G z_range, PySem.W.mg_none_of X G z_sorted, PySem.W.mg_none_of X G z_str, PySem.W.mg_none_of X G z_sum, PySem.W.mg_none_of X G z_tuple⟩
  refine ⟨PySem.W.fnOf "law" "law" (defArgs s_law) (defBody s_law) (defScope s_law) .none kV21 dc21 pm21 an21 cd21 ct21, fun s v => .of_eq rfl, fun base _ _ => ?_⟩
  have F1 := fun_mk (st := s_order_of) l1 c1 k1
  have b1 := F1.binds (ps := ["face"]) fun _ _ _ _ _ _ us hl => match us, hl with | [_], _ => rfl
  have h_order_of : Has l.prog w K mg base "order_of" 1 ["face"] (sp_order_of K) := ⟨⟨_, _, PySem.W.mg_of X G a1, k1, b1, ok_order_of F1 B (PySem.W.mg_of X G q_SIGNS) ⟩⟩
  have F2 := fun_mk (st := s_in_order) l2 c2 k2
  have b2 := F2.binds (ps := ["faces"]) fun _ _ _ _ _ _ us hl => match us, hl with | [_], _ => rfl
  have h_in_order : Has l.prog w K mg base "in_order" 2 ["faces"] (sp_in_order K) := ⟨⟨_, _, PySem.W.mg_of X G a2, k2, b2, ok_in_order F2 B  h_order_of⟩⟩
  have F3 := fun_mk (st := s_corners_of) l3 c3 k3
  have b3 := F3.binds (ps := ["face"]) fun _ _ _ _ _ _ us hl => match us, hl with | [_], _ => rfl
  have h_corners_of : Has l.prog w K mg base "corners_of" 1 ["face"] (sp_corners_of K) := ⟨⟨_, _, PySem.W.mg_of X G a3, k3, b3, ok_corners_of F3 B  ⟩⟩
  have F4 := fun_mk (st := s_is_face) l4 c4 k4
  have b4 := F4.binds (ps := ["bits", "text"]) fun _ _ _ _ _ _ us hl => match us, hl with | [_, _], _ => rfl
  have h_is_face : Has l.prog w K mg base "is_face" 1 ["bits", "text"] (sp_is_face K) := ⟨⟨_, _, PySem.W.mg_of X G a4, k4, b4, ok_is_face F4 B (PySem.W.mg_of X G q_SIGNS) ⟩⟩
  have F5 := fun_mk (st := s_is_parting) l5 c5 k5
  have b5 := F5.binds (ps := ["some", "faces"]) fun _ _ _ _ _ _ us hl => match us, hl with | [_, _], _ => rfl
  have h_is_parting : Has l.prog w K mg base "is_parting" 3 ["some", "faces"] (sp_is_parting K) := ⟨⟨_, _, PySem.W.mg_of X G a5, k5, b5, ok_is_parting F5 B  h_is_face h_in_order h_corners_of⟩⟩
  have F6 := fun_mk (st := s__law_mix) l6 c6 k6
  have b6 := F6.binds (ps := ["cell", "k"]) fun _ _ _ _ _ _ us hl => match us, hl with | [_, _], _ => rfl
  have h__law_mix : Has l.prog w K mg base "_law_mix" 1 ["cell", "k"] (sp__law_mix K) := ⟨⟨_, _, PySem.W.mg_of X G a6, k6, b6, ok__law_mix F6 B  ⟩⟩
  have F7 := fun_mk (st := s__law_deck) l7 c7 k7
  have b7 := F7.binds (ps := ["script"]) fun _ _ _ _ _ _ us hl => match us, hl with | [_], _ => rfl
  have h__law_deck : Has l.prog w K mg base "_law_deck" 1 ["script"] (sp__law_deck K) := ⟨⟨_, _, PySem.W.mg_of X G a7, k7, b7, ok__law_deck F7 B  ⟩⟩
  have F8 := fun_mk (st := s__law_next) l8 c8 k8
  have b8 := F8.binds (ps := ["deck", "many"]) fun _ _ _ _ _ _ us hl => match us, hl with | [_, _], _ => rfl
  have h__law_next : Has l.prog w K mg base "_law_next" 2 ["deck", "many"] (sp__law_next K) := ⟨⟨_, _, PySem.W.mg_of X G a8, k8, b8, ok__law_next F8 B  h__law_mix⟩⟩
  have h__law_next : Has l.prog w K mg base "_law_next" 2 ["deck", "many"] (spNext K) := h__law_next.imp fun _ _ _ _ q => SpF.abs next_abs q
  have F9 := fun_mk (st := s__law_bits) l9 c9 k9
  have b9 := F9.binds (ps := ["deck"]) fun _ _ _ _ _ _ us hl => match us, hl with | [_], _ => rfl
  have h__law_bits : Has l.prog w K mg base "_law_bits" 3 ["deck"] (sp__law_bits K) := ⟨⟨_, _, PySem.W.mg_of X G a9, k9, b9, ok__law_bits F9 B  h__law_next⟩⟩
  have F10 := fun_mk (st := s__law_face) l10 c10 k10
  have b10 := F10.binds (ps := ["deck", "bits"]) fun _ _ _ _ _ _ us hl => match us, hl with | [_, _], _ => rfl
  have h__law_face : Has l.prog w K mg base "_law_face" 3 ["deck", "bits"] (sp__law_face K) := ⟨⟨_, _, PySem.W.mg_of X G a10, k10, b10, ok__law_face F10 B  h__law_next⟩⟩
  have F11 := fun_mk (st := s__law_all) l11 c11 k11
  have b11 := F11.binds (ps := ["bits"]) fun _ _ _ _ _ _ us hl => match us, hl with | [_], _ => rfl
  have h__law_all : Has l.prog w K mg base "_law_all" 1 ["bits"] (sp__law_all K) := ⟨⟨_, _, PySem.W.mg_of X G a11, k11, b11, ok__law_all F11 B  ⟩⟩
  have F12 := fun_mk (st := s__law_lies) l12 c12 k12
  have b12 := F12.binds (ps := ["face", "corner"]) fun _ _ _ _ _ _ us hl => match us, hl with | [_, _], _ => rfl
  have h__law_lies : Has l.prog w K mg base "_law_lies" 1 ["face", "corner"] (sp__law_lies K) := ⟨⟨_, _, PySem.W.mg_of X G a12, k12, b12, ok__law_lies F12 B  ⟩⟩
  have F13 := fun_mk (st := s__law_set) l13 c13 k13
  have b13 := F13.binds (ps := ["deck", "bits"]) fun _ _ _ _ _ _ us hl => match us, hl with | [_, _], _ => rfl
  have h__law_set : Has l.prog w K mg base "_law_set" 4 ["deck", "bits"] (sp__law_set K) := ⟨⟨_, _, PySem.W.mg_of X G a13, k13, b13, ok__law_set F13 B  h__law_all h__law_next h__law_face h__law_lies⟩⟩
  have F14 := fun_mk (st := s__law_sorted) l14 c14 k14
  have b14 := F14.binds (ps := ["faces"]) fun _ _ _ _ _ _ us hl => match us, hl with | [_], _ => rfl
  have h__law_sorted : Has l.prog w K mg base "_law_sorted" 1 ["faces"] (sp__law_sorted K) := ⟨⟨_, _, PySem.W.mg_of X G a14, k14, b14, ok__law_sorted F14 B  ⟩⟩
  have F15 := fun_mk (st := s__law_one_of) l15 c15 k15
  have b15 := F15.binds (ps := ["one", "other"]) fun _ _ _ _ _ _ us hl => match us, hl with | [_, _], _ => rfl
  have h__law_one_of : Has l.prog w K mg base "_law_one_of" 1 ["one", "other"] (sp__law_one_of K) := ⟨⟨_, _, PySem.W.mg_of X G a15, k15, b15, ok__law_one_of F15 B  ⟩⟩
  have F16 := fun_mk (st := s__law_coarser) l16 c16 k16
  have b16 := F16.binds (ps := ["deck", "faces", "times"]) fun _ _ _ _ _ _ us hl => match us, hl with | [_, _, _], _ => rfl
  have h__law_coarser : Has l.prog w K mg base "_law_coarser" 3 ["deck", "faces", "times"] (sp__law_coarser K) := ⟨⟨_, _, PySem.W.mg_of X G a16, k16, b16, ok__law_coarser F16 B  h__law_next h__law_one_of h__law_sorted⟩⟩
  have F17 := fun_mk (st := s__law_numbers) l17 c17 k17
  have b17 := F17.binds (ps := ["face"]) fun _ _ _ _ _ _ us hl => match us, hl with | [_], _ => rfl
  have h__law_numbers : Has l.prog w K mg base "_law_numbers" 1 ["face"] (sp__law_numbers K) := ⟨⟨_, _, PySem.W.mg_of X G a17, k17, b17, ok__law_numbers F17 B  ⟩⟩
  have F18 := fun_mk (st := s__law_is_parting) l18 c18 k18
  have b18 := F18.binds (ps := ["some", "faces"]) fun _ _ _ _ _ _ us hl => match us, hl with | [_, _], _ => rfl
  have h__law_is_parting : Has l.prog w K mg base "_law_is_parting" 2 ["some", "faces"] (sp__law_is_parting K) := ⟨⟨_, _, PySem.W.mg_of X G a18, k18, b18, ok__law_is_parting F18 B  h__law_numbers⟩⟩
  have F19 := fun_mk (st := s__law_spoilt) l19 c19 k19
  have b19 := F19.binds (ps := ["deck", "faces", "bits"]) fun _ _ _ _ _ _ us hl => match us, hl with | [_, _, _], _ => rfl
  have h__law_spoilt : Has l.prog w K mg base "_law_spoilt" 4 ["deck", "faces", "bits"] (sp__law_spoilt K) := ⟨⟨_, _, PySem.W.mg_of X G a19, k19, b19, ok__law_spoilt F19 B  h__law_next h__law_face h__law_sorted⟩⟩
  have F20 := fun_mk (st := s__law_right) l20 c20 k20
  have b20 := F20.binds (ps := ["some", "faces"]) fun _ _ _ _ _ _ us hl => match us, hl with | [_, _], _ => rfl
  have h__law_right : Has l.prog w K mg base "_law_right" 4 ["some", "faces"] (sp__law_right K) := ⟨⟨_, _, PySem.W.mg_of X G a20, k20, b20, ok__law_right F20 B  h__law_is_parting h_is_parting⟩⟩
  have F21 := fun_mk (st := s_law) l21 c21 k21
  exact ok_law F21 B  h__law_deck h__law_bits h__law_set h__law_coarser h__law_next h__law_spoilt h__law_right h_is_parting
end G
open PySem PySem.W PyProof.Rows
set_option maxHeartbeats 0 in
theorem PySem.Challenge.cw_facesparted_k06_partings_looked_at_holds : PySem.Challenge.rw_facesparted_k06_partings_looked_at.Holds := by
  w_on; o_law; k_head; (case hw => w_witness2)
  k_fill
  refine L2.walk_of (l := PySem.Challenge.rw_facesparted_k06_partings_looked_at) (n := 63) (k := 5) (x := "script") (CX := fun _ => L2.CX0) (sp := fun w => G.sp_law _) rfl (by decide) rfl ⟨rfl, by decide, by decide⟩ (fun w h Y => PySem.W.kIn_of Y) ?F (fun _ _ a ns hl _ hS => Sm.sp_law_of G.law_true hl hS) (fun _ _ _ _ _ h => h)
  case F =>
    intro w mg fa h KX G hmg
    refine' _root_.G.all_mk KX G hmg ?a1 ?l1 ?c1 ?k1 ?a2 ?l2 ?c2 ?k2 ?a3 ?l3 ?c3 ?k3 ?a4 ?l4 ?c4 ?k4 ?a5 ?l5 ?c5 ?k5 ?a6 ?l6 ?c6 ?k6 ?a7 ?l7 ?c7 ?k7 ?a8 ?l8 ?c8 ?k8 ?a9 ?l9 ?c9 ?k9 ?a10 ?l10 ?c10 ?k10 ?a11 ?l11 ?c11 ?k11 ?a12 ?l12 ?c12 ?k12 ?a13 ?l13 ?c13 ?k13 ?a14 ?l14 ?c14 ?k14 ?a15 ?l15 ?c15 ?k15 ?a16 ?l16 ?c16 ?k16 ?a17 ?l17 ?c17 ?k17 ?a18 ?l18 ?c18 ?k18 ?a19 ?l19 ?c19 ?k19 ?a20 ?l20 ?c20 ?k20 ?a21 ?l21 ?c21 ?k21 ?q_SIGNS ?z_bool ?z_enumerate ?z_int ?z_isinstance ?z_len ?z_list ?z_max ?z_min ?z_range ?z_sorted ?z_str ?z_sum ?z_tuple
    (case a1 => k_is); (case l1 => k_is); (case c1 => k_is); (case k1 => k_is); (case a2 => k_is); (case l2 => k_is); (case c2 => k_is); (case k2 => k_is); (case a3 => k_is); (case l3 => k_is); (case c3 => k_is); (case k3 => k_is); (case a4 => k_is); (case l4 => k_is); (case c4 => k_is); (case k4 => k_is); (case a5 => k_is); (case l5 => k_is); (case c5 => k_is); (case k5 => k_is); (case a6 => k_is); (case l6 => k_is); (case c6 => k_is); (case k6 => k_is); (case a7 => k_is); (case l7 => k_is); (case c7 => k_is); (case k7 => k_is); (case a8 => k_is); (case l8 => k_is); (case c8 => k_is); (case k8 => k_is); (case a9 => k_is); (case l9 => k_is); (case c9 => k_is); (case k9 => k_is); (case a10 => k_is); (case l10 => k_is); (case c10 => k_is); (case k10 => k_is); (case a11 => k_is); (case l11 => k_is); (case c11 => k_is); (case k11 => k_is); (case a12 => k_is); (case l12 => k_is); (case c12 => k_is); (case k12 => k_is); (case a13 => k_is); (case l13 => k_is); (case c13 => k_is); (case k13 => k_is); (case a14 => k_is); (case l14 => k_is); (case c14 => k_is); (case k14 => k_is); (case a15 => k_is); (case l15 => k_is); (case c15 => k_is); (case k15 => k_is); (case a16 => k_is); (case l16 => k_is); (case c16 => k_is); (case k16 => k_is); (case a17 => k_is); (case l17 => k_is); (case c17 => k_is); (case k17 => k_is); (case a18 => k_is); (case l18 => k_is); (case c18 => k_is); (case k18 => k_is); (case a19 => k_is); (case l19 => k_is); (case c19 => k_is); (case k19 => k_is); (case a20 => k_is); (case l20 => k_is); (case c20 => k_is); (case k20 => k_is); (case a21 => k_is); (case l21 => k_is); (case c21 => k_is); (case k21 => k_is); (case q_SIGNS => k_is); (case z_bool => k_is); (case z_enumerate => k_is); (case z_int => k_is); (case z_isinstance => k_is); (case z_len => k_is); (case z_list => k_is); (case z_max => k_is); (case z_min => k_is); (case z_range => k_is); (case z_sorted => k_is); (case z_str => k_is); (case z_sum => k_is); (case z_tuple => k_is)
