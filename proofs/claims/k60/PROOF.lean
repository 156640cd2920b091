import PyProof.Rows.All
import Wide.All
import OpenK.AllK
import Wide.FinOn
import HandS.ForMost
import HandS.Exc
import HandS.ExcOwn
import HandS.WordsExc
import HandS.Lambda
import HandS.EndTab
import HandS.TupAny
import HandS.Deep
import HandS.IsInst
import HandS.Style
import HandS.Conv
import HandS.TupMul
import HandS.Zip
import HandS.SetFor
import KE.GoesMore
import HandS.ExcIs
import HandS.TryMany
import PySem.Challenge.RW_emberhall_k60_whole_rotas_and_crews_on_d
set_option Elab.async false
set_option linter.all false
set_option maxRecDepth 100000
set_option maxHeartbeats 4000000
/-! Em 1: plain data D, how a value bears it in the abstract heap (Rep: with what it owns; Vw: to be read), states. -/
namespace Em
open PySem L2

inductive D where
  | non | bl (b : Bool) | int (i : Int) | str (s : Str)
  | tup (xs : List D) | lst (xs : List D)
  | dct (ks : List (Sum Key (List Key))) (vs : List D)
  /-- the script -/
  | scr (xs : List Int)
  /-- a known address -/
  | adr (a : Addr)
  /-- a tuple of which it is known that it bears no dict -/
  | ntp (xs : List D)

abbrev Ft := Addr → Nat
def f1 (a : Addr) : Ft := fun b => if b = a then 1 else 0

def isMutO : HO → Bool
  | .lst _ => true | .dK _ => true | .dT _ => true | .set _ _ => true | _ => false

/-- a list that is locked, or written -/
def ScL (K : PySem.W.Frag) (H : Hp) (a : Addr) (vs : List V) : Prop :=
  (∃ o, H a = some (.frz o (.lst vs))) ∨ SqL K (fun _ => none) a vs
def NTp (H : Hp) (a : Addr) (vs : List V) : Prop := ∃ o, H a = some (.frz o (.tup vs)) ∧ o.cls = .type "tuple" ∧ o.dict = none
def DcV (H : Hp) (a : Addr) (ks : List (Sum Key (List Key))) (vs : List V) : Prop :=
  (∃ kvs : List (Key × V), H a = some (.dK kvs) ∧ ks = kvs.map (fun p => .inl p.1) ∧ vs = kvs.map (·.2)) ∨
  (∃ kvs : List (List Key × V), H a = some (.dT kvs) ∧ ks = kvs.map (fun p => .inr p.1) ∧ vs = kvs.map (·.2))

section
variable (K : PySem.W.Frag) (Z : Addr → Prop) (H : Hp)
mutual
def Rep : D → Nat → V → Ft → Prop
  | .non, _, v, S => v = .non ∧ ∀ b, S b = 0
  | .bl b, _, v, S => v = .bl b ∧ ∀ b, S b = 0
  | .int i, _, v, S => v = .int i ∧ ∀ b, S b = 0
  | .str x, _, v, S => v = .str x ∧ ∀ b, S b = 0
  | .tup ds, k, v, S => ∃ a vs, v = .ref a ∧ SqT K H a vs ∧ Reps ds k vs S
  | .lst ds, 0, v, S => ∃ a vs, v = .ref a ∧ (Z a ∧ H a = some (.lst vs)) ∧ Reps ds 0 vs S
  | .lst ds, k + 1, v, S => ∃ a vs S', v = .ref a ∧ H a = some (.lst vs) ∧ Reps ds k vs S' ∧ ∀ b, S b = f1 a b + S' b
  | .adr a, _, v, S => v = .ref a ∧ ∀ b, S b = 0
  | .ntp ds, k, v, S => ∃ a vs, v = .ref a ∧ NTp H a vs ∧ Reps ds k vs S
  | .scr xs, _, v, S => (∃ a, v = .ref a ∧ ScL K H a (xs.map V.int)) ∧ ∀ b, S b = 0
  | .dct ks ds, 0, v, S => ∃ a vs, v = .ref a ∧ Z a ∧ DcV H a ks vs ∧ Reps ds 0 vs S
  | .dct ks ds, k + 1, v, S => ∃ a vs S', v = .ref a ∧ DcV H a ks vs ∧ Reps ds k vs S' ∧ ∀ b, S b = f1 a b + S' b
def Reps : List D → Nat → List V → Ft → Prop
  | [], _, vs, S => vs = [] ∧ ∀ b, S b = 0
  | d :: ds, k, vs, S => ∃ v r S1 S2, vs = v :: r ∧ Rep d k v S1 ∧ Reps ds k r S2 ∧ ∀ b, S b = S1 b + S2 b
end
mutual
def Vw : D → V → Prop
  | .non, v => v = .non
  | .bl b, v => v = .bl b
  | .int i, v => v = .int i
  | .str x, v => v = .str x
  | .tup ds, v => ∃ a vs, v = .ref a ∧ SqT K H a vs ∧ Vws ds vs
  | .lst ds, v => ∃ a vs, v = .ref a ∧ SqL K H a vs ∧ Vws ds vs
  | .dct ks ds, v => ∃ a vs, v = .ref a ∧ DcV H a ks vs ∧ Vws ds vs
  | .adr a, v => v = .ref a
  | .ntp ds, v => ∃ a vs, v = .ref a ∧ NTp H a vs ∧ Vws ds vs
  | .scr xs, v => ∃ a, v = .ref a ∧ ScL K H a (xs.map V.int)
def Vws : List D → List V → Prop
  | [], vs => vs = []
  | d :: ds, vs => ∃ v r, vs = v :: r ∧ Vw d v ∧ Vws ds r
end
end

theorem NTp.sq {K : PySem.W.Frag} {H : Hp} {a : Addr} {vs : List V} (h : NTp H a vs) : SqT K H a vs := let ⟨o, h, _⟩ := h; .inl (.inr ⟨o, h⟩)
theorem ScL.sq {K : PySem.W.Frag} {H : Hp} {a : Addr} {vs : List V} (h : ScL K H a vs) : SqL K H a vs := by
  rcases h with ⟨o, h⟩ | h
  · exact .inl (.inr ⟨o, h⟩)
  · rcases h with (h | ⟨_, h⟩) | h
    · cases h
    · cases h
    · exact .inr h
theorem f1_self (a : Addr) : f1 a a = 1 := if_pos rfl
theorem f1_ne {a b : Addr} (h : b ≠ a) : f1 a b = 0 := if_neg h
theorem f1_le (a b : Addr) : f1 a b ≤ 1 := by unfold f1; split <;> omega
theorem f1_pos {a b : Addr} (h : 0 < f1 a b) : b = a := by
  unfold f1 at h; split at h
  · assumption
  · omega

section
variable {K : PySem.W.Frag} {Z Z' : Addr → Prop} {H H' : Hp}
mutual
theorem Rep.vw : ∀ (d : D) {k : Nat} {v : V} {S : Ft}, Rep K Z H d k v S → Vw K H d v
  | .non, _, _, _, h => by simp only [Rep] at h; simp only [Vw]; exact h.1
  | .bl _, _, _, _, h => by simp only [Rep] at h; simp only [Vw]; exact h.1
  | .int _, _, _, _, h => by simp only [Rep] at h; simp only [Vw]; exact h.1
  | .str _, _, _, _, h => by simp only [Rep] at h; simp only [Vw]; exact h.1
  | .scr _, _, _, _, h => by simp only [Rep] at h; simp only [Vw]; exact h.1
  | .adr _, _, _, _, h => by simp only [Rep] at h; simp only [Vw]; exact h.1
  | .ntp ds, _, _, _, h => by
    simp only [Rep] at h; simp only [Vw]
    obtain ⟨a, vs, e, q, r⟩ := h
    exact ⟨a, vs, e, q, Reps.vw ds r⟩
  | .tup ds, _, _, _, h => by
    simp only [Rep] at h; simp only [Vw]
    obtain ⟨a, vs, e, q, r⟩ := h
    exact ⟨a, vs, e, q, Reps.vw ds r⟩
  | .lst ds, 0, _, _, h => by
    simp only [Rep] at h; simp only [Vw]
    obtain ⟨a, vs, e, q, r⟩ := h
    exact ⟨a, vs, e, .of q.2, Reps.vw ds r⟩
  | .lst ds, k + 1, _, _, h => by
    simp only [Rep] at h; simp only [Vw]
    obtain ⟨a, vs, S', e, q, r, _⟩ := h
    exact ⟨a, vs, e, .of q, Reps.vw ds r⟩
  | .dct ks ds, 0, _, _, h => by
    simp only [Rep] at h; simp only [Vw]
    obtain ⟨a, vs, e, _, q, r⟩ := h
    exact ⟨a, vs, e, q, Reps.vw ds r⟩
  | .dct ks ds, k + 1, _, _, h => by
    simp only [Rep] at h; simp only [Vw]
    obtain ⟨a, vs, S', e, q, r, _⟩ := h
    exact ⟨a, vs, e, q, Reps.vw ds r⟩
theorem Reps.vw : ∀ (ds : List D) {k : Nat} {vs : List V} {S : Ft}, Reps K Z H ds k vs S → Vws K H ds vs
  | [], _, _, _, h => by simp only [Reps] at h; simp only [Vws]; exact h.1
  | d :: ds, _, _, _, h => by
    simp only [Reps] at h; simp only [Vws]
    obtain ⟨v, r, S1, S2, e, h1, h2, _⟩ := h
    exact ⟨v, r, e, Rep.vw d h1, Reps.vw ds h2⟩
end

theorem DcV.mut {a : Addr} {ks : List (Sum Key (List Key))} {vs : List V} (h : DcV H a ks vs) : ∃ o, H a = some o ∧ isMutO o = true := by
  rcases h with ⟨_, h, _⟩ | ⟨_, h, _⟩
  · exact ⟨_, h, rfl⟩
  · exact ⟨_, h, rfl⟩
theorem DcV.keep {a : Addr} {ks : List (Sum Key (List Key))} {vs : List V} (h : DcV H a ks vs) (k : ∀ o, H a = some o → isMutO o = true → H' a = some o) : DcV H' a ks vs := by
  rcases h with ⟨_, h, e⟩ | ⟨_, h, e⟩
  · exact .inl ⟨_, k _ h rfl, e⟩
  · exact .inr ⟨_, k _ h rfl, e⟩
mutual
/-- what is owned stands as a thing that may be written -/
theorem Rep.mut : ∀ (d : D) {k : Nat} {v : V} {S : Ft}, Rep K Z H d k v S → ∀ b, 0 < S b → ∃ o, H b = some o ∧ isMutO o = true
  | .non, _, _, _, h, b, hb => by simp only [Rep] at h; have := h.2 b; omega
  | .bl _, _, _, _, h, b, hb => by simp only [Rep] at h; have := h.2 b; omega
  | .int _, _, _, _, h, b, hb => by simp only [Rep] at h; have := h.2 b; omega
  | .str _, _, _, _, h, b, hb => by simp only [Rep] at h; have := h.2 b; omega
  | .scr _, _, _, _, h, b, hb => by simp only [Rep] at h; have := h.2 b; omega
  | .adr _, _, _, _, h, b, hb => by simp only [Rep] at h; have := h.2 b; omega
  | .ntp ds, _, _, _, h, b, hb => by
    simp only [Rep] at h
    obtain ⟨a, vs, e, q, r⟩ := h
    exact Reps.mut ds r b hb
  | .tup ds, _, _, _, h, b, hb => by
    simp only [Rep] at h
    obtain ⟨a, vs, e, q, r⟩ := h
    exact Reps.mut ds r b hb
  | .lst ds, 0, _, _, h, b, hb => by
    simp only [Rep] at h
    obtain ⟨a, vs, e, q, r⟩ := h
    exact Reps.mut ds r b hb
  | .lst ds, k + 1, _, _, h, b, hb => by
    simp only [Rep] at h
    obtain ⟨a, vs, S', e, q, r, hS⟩ := h
    have := hS b
    by_cases z : 0 < S' b
    · exact Reps.mut ds r b z
    · have e' : b = a := f1_pos (by omega)
      subst e'
      exact ⟨_, q, rfl⟩
  | .dct ks ds, 0, _, _, h, b, hb => by
    simp only [Rep] at h
    obtain ⟨a, vs, e, _, q, r⟩ := h
    exact Reps.mut ds r b hb
  | .dct ks ds, k + 1, _, _, h, b, hb => by
    simp only [Rep] at h
    obtain ⟨a, vs, S', e, q, r, hS⟩ := h
    have := hS b
    by_cases z : 0 < S' b
    · exact Reps.mut ds r b z
    · have e' : b = a := f1_pos (by omega)
      subst e'
      exact q.mut
theorem Reps.mut : ∀ (ds : List D) {k : Nat} {vs : List V} {S : Ft}, Reps K Z H ds k vs S → ∀ b, 0 < S b → ∃ o, H b = some o ∧ isMutO o = true
  | [], _, _, _, h, b, hb => by simp only [Reps] at h; have := h.2 b; omega
  | d :: ds, _, _, _, h, b, hb => by
    simp only [Reps] at h
    obtain ⟨v, r, S1, S2, e, h1, h2, hS⟩ := h
    have := hS b
    by_cases z : 0 < S1 b
    · exact Rep.mut d h1 b z
    · exact Reps.mut ds h2 b (by omega)
end

/-- what is kept for a description with the footprint S -/
structure Kp (Z Z' : Addr → Prop) (H H' : Hp) (S : Ft) : Prop where
  z : ∀ a, Z a → Z' a
  h : ∀ a o, H a = some o → (0 < S a ∨ Z a ∨ isMutO o = false) → (∀ ps, o ≠ .tbl ps) → H' a = some o
theorem Kp.le {S S' : Ft} (k : Kp Z Z' H H' S) (h : ∀ b, S' b ≤ S b) : Kp Z Z' H H' S' := ⟨k.z, fun a o e c n => k.h a o e (by
  rcases c with c | c
  · have := h a; exact .inl (by omega)
  · exact .inr c) n⟩
theorem sqT_keep {S : Ft} (k : Kp Z Z' H H' S) {a : Addr} {vs : List V} (h : SqT K H a vs) : SqT K H' a vs := by
  rcases h with (h | ⟨o, h⟩) | h
  · exact .inl (.inl (k.h a _ h (.inr (.inr rfl)) (fun _ z => by cases z)))
  · exact .inl (.inr ⟨o, k.h a _ h (.inr (.inr rfl)) (fun _ z => by cases z)⟩)
  · exact .inr h
theorem ScL.keep {S : Ft} (k : Kp Z Z' H H' S) {a : Addr} {vs : List V} (h : ScL K H a vs) : ScL K H' a vs := by
  rcases h with ⟨o, h⟩ | h
  · exact .inl ⟨o, k.h a _ h (.inr (.inr rfl)) (fun _ z => by cases z)⟩
  · exact .inr h
mutual
theorem Rep.keep : ∀ (d : D) {k : Nat} {v : V} {S : Ft}, Rep K Z H d k v S → Kp Z Z' H H' S → Rep K Z' H' d k v S
  | .non, _, _, _, h, _ => by simp only [Rep] at h ⊢; exact h
  | .bl _, _, _, _, h, _ => by simp only [Rep] at h ⊢; exact h
  | .int _, _, _, _, h, _ => by simp only [Rep] at h ⊢; exact h
  | .str _, _, _, _, h, _ => by simp only [Rep] at h ⊢; exact h
  | .adr _, _, _, _, h, _ => by simp only [Rep] at h ⊢; exact h
  | .ntp ds, _, _, _, h, p => by
    simp only [Rep] at h ⊢
    obtain ⟨a, vs, e, ⟨o, q, q2⟩, r⟩ := h
    exact ⟨a, vs, e, ⟨o, p.h a _ q (.inr (.inr rfl)) (fun _ z => by cases z), q2⟩, Reps.keep ds r p⟩
  | .scr _, _, _, _, h, p => by
    simp only [Rep] at h ⊢
    obtain ⟨⟨a, e, q⟩, z⟩ := h
    exact ⟨⟨a, e, q.keep p⟩, z⟩
  | .tup ds, _, _, _, h, p => by
    simp only [Rep] at h ⊢
    obtain ⟨a, vs, e, q, r⟩ := h
    exact ⟨a, vs, e, sqT_keep p q, Reps.keep ds r p⟩
  | .lst ds, 0, _, _, h, p => by
    simp only [Rep] at h ⊢
    obtain ⟨a, vs, e, q, r⟩ := h
    exact ⟨a, vs, e, ⟨p.z a q.1, p.h a _ q.2 (.inr (.inl q.1)) (fun _ z => by cases z)⟩, Reps.keep ds r p⟩
  | .lst ds, k + 1, _, _, h, p => by
    simp only [Rep] at h ⊢
    obtain ⟨a, vs, S', e, q, r, hS⟩ := h
    refine ⟨a, vs, S', e, p.h a _ q (.inl ?_) (fun _ z => by cases z), Reps.keep ds r (p.le fun b => ?_), hS⟩
    · have := hS a; rw [f1_self] at this; omega
    · have := hS b; omega
  | .dct ks ds, 0, _, _, h, p => by
    simp only [Rep] at h ⊢
    obtain ⟨a, vs, e, z, q, r⟩ := h
    exact ⟨a, vs, e, p.z a z, q.keep fun o e m => p.h a o e (.inr (.inl z)) (fun _ z => by subst z; cases m), Reps.keep ds r p⟩
  | .dct ks ds, k + 1, _, _, h, p => by
    simp only [Rep] at h ⊢
    obtain ⟨a, vs, S', e, q, r, hS⟩ := h
    refine ⟨a, vs, S', e, q.keep fun o e m => p.h a o e (.inl ?_) (fun _ z => by subst z; cases m), Reps.keep ds r (p.le fun b => ?_), hS⟩
    · have := hS a; rw [f1_self] at this; omega
    · have := hS b; omega
theorem Reps.keep : ∀ (ds : List D) {k : Nat} {vs : List V} {S : Ft}, Reps K Z H ds k vs S → Kp Z Z' H H' S → Reps K Z' H' ds k vs S
  | [], _, _, _, h, _ => by simp only [Reps] at h ⊢; exact h
  | d :: ds, _, _, _, h, p => by
    simp only [Reps] at h ⊢
    obtain ⟨v, r, S1, S2, e, h1, h2, hS⟩ := h
    exact ⟨v, r, S1, S2, e, Rep.keep d h1 (p.le fun b => by have := hS b; omega), Reps.keep ds h2 (p.le fun b => by have := hS b; omega), hS⟩
end

/-- what is given up is frozen -/
def frz (Z : Addr → Prop) (S S' : Ft) : Addr → Prop := fun a => Z a ∨ (0 < S a ∧ S' a = 0)
mutual
theorem Rep.weak : ∀ (d : D) {k j : Nat} {v : V} {S : Ft}, Rep K Z H d k v S → j ≤ k → (∀ b, S b ≤ 1) → ∃ S', (∀ b, S' b ≤ S b) ∧ Rep K (frz Z S S') H d j v S'
  | .non, _, _, _, S, h, _, _ => ⟨S, fun _ => Nat.le_refl _, by simp only [Rep] at h ⊢; exact h⟩
  | .bl _, _, _, _, S, h, _, _ => ⟨S, fun _ => Nat.le_refl _, by simp only [Rep] at h ⊢; exact h⟩
  | .int _, _, _, _, S, h, _, _ => ⟨S, fun _ => Nat.le_refl _, by simp only [Rep] at h ⊢; exact h⟩
  | .str _, _, _, _, S, h, _, _ => ⟨S, fun _ => Nat.le_refl _, by simp only [Rep] at h ⊢; exact h⟩
  | .scr _, _, _, _, S, h, _, _ => ⟨S, fun _ => Nat.le_refl _, by simp only [Rep] at h ⊢; exact h⟩
  | .adr _, _, _, _, S, h, _, _ => ⟨S, fun _ => Nat.le_refl _, by simp only [Rep] at h ⊢; exact h⟩
  | .ntp ds, _, _, _, S, h, hj, h1 => by
    simp only [Rep] at h
    obtain ⟨a, vs, e, q, r⟩ := h
    obtain ⟨S', l, r'⟩ := Reps.weak ds r hj h1
    exact ⟨S', l, by simp only [Rep]; exact ⟨a, vs, e, q, r'⟩⟩
  | .tup ds, _, _, _, S, h, hj, h1 => by
    simp only [Rep] at h
    obtain ⟨a, vs, e, q, r⟩ := h
    obtain ⟨S', l, r'⟩ := Reps.weak ds r hj h1
    exact ⟨S', l, by simp only [Rep]; exact ⟨a, vs, e, q, r'⟩⟩
  | .lst ds, 0, j, _, S, h, hj, h1 => by
    simp only [Rep] at h
    obtain ⟨a, vs, e, q, r⟩ := h
    obtain ⟨S', l, r'⟩ := Reps.weak (j := 0) ds r (Nat.le_refl 0) h1
    have ej : j = 0 := by omega
    subst ej
    exact ⟨S', l, by simp only [Rep]; exact ⟨a, vs, e, ⟨.inl q.1, q.2⟩, r'⟩⟩
  | .lst ds, k + 1, 0, _, S, h, hj, h1 => by
    simp only [Rep] at h
    obtain ⟨a, vs, S1, e, q, r, hS⟩ := h
    obtain ⟨S', l, r'⟩ := Reps.weak (j := 0) ds r (Nat.zero_le _) (fun b => by have := hS b; have := h1 b; omega)
    refine ⟨S', fun b => by have := hS b; have := l b; omega, ?_⟩
    simp only [Rep]
    have ha : 0 < S a ∧ S' a = 0 := by
      have z := hS a
      have y := h1 a
      have l1 := l a
      rw [f1_self] at z
      omega
    exact ⟨a, vs, e, ⟨.inr ha, q⟩, Reps.keep ds r' ⟨fun b z => by
      rcases z with z | ⟨z1, z2⟩
      · exact .inl z
      · exact .inr ⟨by have := hS b; omega, z2⟩, fun _ _ e _ _ => e⟩⟩
  | .lst ds, k + 1, j + 1, _, S, h, hj, h1 => by
    simp only [Rep] at h
    obtain ⟨a, vs, S1, e, q, r, hS⟩ := h
    obtain ⟨S', l, r'⟩ := Reps.weak (j := j) ds r (by omega) (fun b => by have := hS b; have := h1 b; omega)
    refine ⟨fun b => f1 a b + S' b, fun b => by have := hS b; have := l b; show f1 a b + S' b ≤ S b; omega, ?_⟩
    simp only [Rep]
    exact ⟨a, vs, S', e, q, Reps.keep ds r' ⟨fun b z => by
      rcases z with z | ⟨z1, z2⟩
      · exact .inl z
      · refine .inr ⟨by have := hS b; omega, ?_⟩
        have := hS b
        have := h1 b
        show f1 a b + S' b = 0
        omega, fun _ _ e _ _ => e⟩, fun _ => rfl⟩
  | .dct ks ds, 0, j, _, S, h, hj, h1 => by
    simp only [Rep] at h
    obtain ⟨a, vs, e, z, q, r⟩ := h
    obtain ⟨S', l, r'⟩ := Reps.weak (j := 0) ds r (Nat.le_refl 0) h1
    have ej : j = 0 := by omega
    subst ej
    exact ⟨S', l, by simp only [Rep]; exact ⟨a, vs, e, .inl z, q, r'⟩⟩
  | .dct ks ds, k + 1, 0, _, S, h, hj, h1 => by
    simp only [Rep] at h
    obtain ⟨a, vs, S1, e, q, r, hS⟩ := h
    obtain ⟨S', l, r'⟩ := Reps.weak (j := 0) ds r (Nat.zero_le _) (fun b => by have := hS b; have := h1 b; omega)
    refine ⟨S', fun b => by have := hS b; have := l b; omega, ?_⟩
    simp only [Rep]
    have ha : 0 < S a ∧ S' a = 0 := by
      have z := hS a
      have y := h1 a
      have l1 := l a
      rw [f1_self] at z
      omega
    exact ⟨a, vs, e, .inr ha, q, Reps.keep ds r' ⟨fun b z => by
      rcases z with z | ⟨z1, z2⟩
      · exact .inl z
      · exact .inr ⟨by have := hS b; omega, z2⟩, fun _ _ e _ _ => e⟩⟩
  | .dct ks ds, k + 1, j + 1, _, S, h, hj, h1 => by
    simp only [Rep] at h
    obtain ⟨a, vs, S1, e, q, r, hS⟩ := h
    obtain ⟨S', l, r'⟩ := Reps.weak (j := j) ds r (by omega) (fun b => by have := hS b; have := h1 b; omega)
    refine ⟨fun b => f1 a b + S' b, fun b => by have := hS b; have := l b; show f1 a b + S' b ≤ S b; omega, ?_⟩
    simp only [Rep]
    exact ⟨a, vs, S', e, q, Reps.keep ds r' ⟨fun b z => by
      rcases z with z | ⟨z1, z2⟩
      · exact .inl z
      · refine .inr ⟨by have := hS b; omega, ?_⟩
        have := hS b
        have := h1 b
        show f1 a b + S' b = 0
        omega, fun _ _ e _ _ => e⟩, fun _ => rfl⟩
theorem Reps.weak : ∀ (ds : List D) {k j : Nat} {vs : List V} {S : Ft}, Reps K Z H ds k vs S → j ≤ k → (∀ b, S b ≤ 1) → ∃ S', (∀ b, S' b ≤ S b) ∧ Reps K (frz Z S S') H ds j vs S'
  | [], _, _, _, S, h, _, _ => ⟨S, fun _ => Nat.le_refl _, by simp only [Reps] at h ⊢; exact h⟩
  | d :: ds, _, _, _, S, h, hj, h1 => by
    simp only [Reps] at h
    obtain ⟨v, r, S1, S2, e, p1, p2, hS⟩ := h
    obtain ⟨S1', l1, q1⟩ := Rep.weak d p1 hj (fun b => by have := hS b; have := h1 b; omega)
    obtain ⟨S2', l2, q2⟩ := Reps.weak ds p2 hj (fun b => by have := hS b; have := h1 b; omega)
    refine ⟨fun b => S1' b + S2' b, fun b => by have := hS b; have := l1 b; have := l2 b; show S1' b + S2' b ≤ S b; omega, ?_⟩
    simp only [Reps]
    refine ⟨v, r, S1', S2', e, Rep.keep d q1 ⟨fun b z => ?_, fun _ _ e _ _ => e⟩, Reps.keep ds q2 ⟨fun b z => ?_, fun _ _ e _ _ => e⟩, fun _ => rfl⟩
    · rcases z with z | ⟨z1, z2⟩
      · exact .inl z
      · refine .inr ⟨by have := hS b; omega, ?_⟩
        have := hS b
        have := h1 b
        have := l2 b
        show S1' b + S2' b = 0
        omega
    · rcases z with z | ⟨z1, z2⟩
      · exact .inl z
      · refine .inr ⟨by have := hS b; omega, ?_⟩
        have := hS b
        have := h1 b
        have := l1 b
        show S1' b + S2' b = 0
        omega
end
mutual
/-- nothing is owned at depth 0 -/
theorem Rep.zero : ∀ (d : D) {v : V} {S : Ft}, Rep K Z H d 0 v S → ∀ b, S b = 0
  | .non, _, _, h, b => by simp only [Rep] at h; exact h.2 b
  | .bl _, _, _, h, b => by simp only [Rep] at h; exact h.2 b
  | .int _, _, _, h, b => by simp only [Rep] at h; exact h.2 b
  | .str _, _, _, h, b => by simp only [Rep] at h; exact h.2 b
  | .scr _, _, _, h, b => by simp only [Rep] at h; exact h.2 b
  | .adr _, _, _, h, b => by simp only [Rep] at h; exact h.2 b
  | .ntp ds, _, _, h, b => by simp only [Rep] at h; obtain ⟨_, _, _, _, r⟩ := h; exact Reps.zero ds r b
  | .tup ds, _, _, h, b => by simp only [Rep] at h; obtain ⟨_, _, _, _, r⟩ := h; exact Reps.zero ds r b
  | .lst ds, _, _, h, b => by simp only [Rep] at h; obtain ⟨_, _, _, _, r⟩ := h; exact Reps.zero ds r b
  | .dct ks ds, _, _, h, b => by simp only [Rep] at h; obtain ⟨_, _, _, _, _, r⟩ := h; exact Reps.zero ds r b
theorem Reps.zero : ∀ (ds : List D) {vs : List V} {S : Ft}, Reps K Z H ds 0 vs S → ∀ b, S b = 0
  | [], _, _, h, b => by simp only [Reps] at h; exact h.2 b
  | d :: ds, _, _, h, b => by
    simp only [Reps] at h
    obtain ⟨v, r, S1, S2, e, p1, p2, hS⟩ := h
    have := hS b
    have := Rep.zero d p1 b
    have := Reps.zero ds p2 b
    omega
end
mutual
theorem Rep.ft : ∀ (d : D) {k : Nat} {v : V} {S S' : Ft}, Rep K Z H d k v S → (∀ b, S b = S' b) → Rep K Z H d k v S' := fun d {k v S S'} h e => by
  have : S = S' := funext e
  rw [← this]; exact h
end
end
end Em
set_option Elab.async false
set_option linter.all false
set_option maxRecDepth 100000
set_option maxHeartbeats 4000000
/-! Em 2: states, transitions, readings. -/
namespace Em
open PySem L2

abbrev VD := D × Nat
abbrev En := List (Option VD)
inductive Res (α : Type) where
  | ok (a : α) (ρ : En)
  | ex (x : Str)
  | no
abbrev M (α : Type) := En → Res α

section
variable (K : PySem.W.Frag) (Z : Addr → Prop) (H : Hp)
def Slots : L2.St → En → Ft → Prop
  | [], [], S => ∀ b, S b = 0
  | _ :: σ, none :: ρ, S => Slots σ ρ S
  | some v :: σ, some dk :: ρ, S => ∃ S1 S2, Rep K Z H dk.1 dk.2 v S1 ∧ Slots σ ρ S2 ∧ ∀ b, S b = S1 b + S2 b
  | _, _, _ => False
def Repk : List VD → List V → Ft → Prop
  | [], vs, S => vs = [] ∧ ∀ b, S b = 0
  | dk :: ds, vs, S => ∃ v r S1 S2, vs = v :: r ∧ Rep K Z H dk.1 dk.2 v S1 ∧ Repk ds r S2 ∧ ∀ b, S b = S1 b + S2 b
end
structure Good (Z : Addr → Prop) (H : Hp) (S : Ft) : Prop where
  one : ∀ b, S b ≤ 1
  nz : ∀ b, 0 < S b → ¬ Z b
  zd : ∀ b, Z b → H b ≠ none
  mt : ∀ b, 0 < S b → ∃ o, H b = some o ∧ isMutO o = true
structure Tr (Z : Addr → Prop) (H : Hp) (S : Ft) (Z' : Addr → Prop) (H' : Hp) (S' : Ft) : Prop where
  zz : ∀ a, Z a → Z' a
  kp : ∀ a o, H a = some o → S a = 0 → (∀ ps, o ≠ .tbl ps) → H' a = some o
  sn : ∀ a, H a ≠ none → S' a ≤ S a
  zn : ∀ a, H a ≠ none → Z' a → Z a ∨ 0 < S a
  dm : ∀ a, H a ≠ none → H' a ≠ none
structure TrX (H : Hp) (S : Ft) (H' : Hp) : Prop where
  kp : ∀ a o, H a = some o → S a = 0 → (∀ ps, o ≠ .tbl ps) → H' a = some o
  dm : ∀ a, H a ≠ none → H' a ≠ none
structure Sit (K : PySem.W.Frag) (T : List (Addr × Str)) (Z : Addr → Prop) (H : Hp) (S : Ft) (σ : L2.St) (ρ : En) : Prop where
  sl : Slots K Z H σ ρ S
  gd : Good Z H S
  tb : LamX.Tabs T H

section
variable {K : PySem.W.Frag} {T : List (Addr × Str)} {Z Z' Z1 Z2 : Addr → Prop} {H H' H1 H2 : Hp} {S S' S1 S2 R R' : Ft} {σ : L2.St} {ρ : En}
theorem ntbl {o : HO} (m : isMutO o = true) : ∀ ps, o ≠ .tbl ps := fun ps e => by subst e; cases m
theorem Tr.refl (hS : ∀ b, S' b ≤ S b) : Tr Z H S Z H S' := ⟨fun _ z => z, fun _ _ e _ _ => e, fun a _ => hS a, fun _ _ z => .inl z, fun _ n => n⟩
theorem Tr.trans (a : Tr Z H S Z1 H1 S1) (b : Tr Z1 H1 S1 Z2 H2 S2) : Tr Z H S Z2 H2 S2 where
  zz := fun x z => b.zz x (a.zz x z)
  kp := fun x o e s n => b.kp x o (a.kp x o e s n) (by have := a.sn x (by rw [e]; simp); omega) n
  sn := fun x n => Nat.le_trans (b.sn x (a.dm x n)) (a.sn x n)
  zn := fun x n z => by
    rcases b.zn x (a.dm x n) z with z | z
    · exact a.zn x n z
    · have := a.sn x n; exact .inr (by omega)
  dm := fun x n => b.dm x (a.dm x n)
theorem Tr.hold (b : Tr Z H S Z' H' S') (R : Ft) : Tr Z H (fun a => R a + S a) Z' H' (fun a => R a + S' a) where
  zz := b.zz
  kp := fun x o e s n => b.kp x o e (by have : R x + S x = 0 := s; omega) n
  sn := fun x n => by have := b.sn x n; show R x + S' x ≤ R x + S x; omega
  zn := fun x n z => by
    rcases b.zn x n z with z | z
    · exact .inl z
    · exact .inr (by show 0 < R x + S x; omega)
  dm := b.dm
theorem Tr.le (b : Tr Z H S Z' H' S') (h : ∀ x, S1 x ≤ S' x) : Tr Z H S Z' H' S1 := ⟨b.zz, b.kp, fun x n => Nat.le_trans (h x) (b.sn x n), b.zn, b.dm⟩
theorem Tr.from (b : Tr Z H S Z' H' S') (h : ∀ x, S x ≤ S1 x) : Tr Z H S1 Z' H' (fun x => S' x) := ⟨b.zz, fun x o e s n => b.kp x o e (by have := h x; omega) n, fun x n => Nat.le_trans (b.sn x n) (h x), fun x n z => by
  rcases b.zn x n z with z | z
  · exact .inl z
  · exact .inr (by have := h x; omega), b.dm⟩
theorem Tr.x (b : Tr Z H S Z' H' S') : TrX H S H' := ⟨b.kp, b.dm⟩
theorem Tr.thenX (a : Tr Z H S Z1 H1 S1) (b : TrX H1 S2 H2) (h : ∀ x, S2 x ≤ S1 x) : TrX H S H2 :=
  ⟨fun x o e s n => b.kp x o (a.kp x o e s n) (by have := a.sn x (by rw [e]; simp); have := h x; omega) n, fun x n => b.dm x (a.dm x n)⟩
theorem Good.le (g : Good Z H S) (h : ∀ b, S' b ≤ S b) : Good Z H S' :=
  ⟨fun b => Nat.le_trans (h b) (g.one b), fun b p => g.nz b (by have := h b; omega), g.zd, fun b p => g.mt b (by have := h b; omega)⟩
theorem Good.eq (g : Good Z H S) (h : ∀ b, S b = S' b) : Good Z H S' := g.le fun b => by rw [h b]; exact Nat.le_refl _
/-- a held footprint is kept over a transition of the rest -/
theorem Good.kp (g : Good Z H (fun b => R b + S b)) (t : Tr Z H S Z' H' S') : Kp Z Z' H H' R := ⟨t.zz, fun a o e c n => t.kp a o e (by
  have h1 : R a + S a ≤ 1 := g.one a
  rcases c with c | c | c
  · omega
  · by_cases z : 0 < S a
    · exact absurd c (g.nz a (by show 0 < R a + S a; omega))
    · omega
  · by_cases z : 0 < S a
    · obtain ⟨o', e', m⟩ := g.mt a (by show 0 < R a + S a; omega)
      rw [e] at e'; cases e'; rw [c] at m; cases m
    · omega) n⟩
theorem Good.hold (g : Good Z H (fun b => R b + S b)) (t : Tr Z H S Z' H' S') (g' : Good Z' H' S') : Good Z' H' (fun b => R b + S' b) where
  one := fun b => by
    show R b + S' b ≤ 1
    have h1 : R b + S b ≤ 1 := g.one b
    have h2 := g'.one b
    by_cases z : 0 < R b
    · obtain ⟨o, e, _⟩ := g.mt b (by show 0 < R b + S b; omega)
      have := t.sn b (by rw [e]; simp)
      omega
    · omega
  nz := fun b p q => by
    have p : 0 < R b + S' b := p
    have h1 : R b + S b ≤ 1 := g.one b
    by_cases z : 0 < R b
    · obtain ⟨o, e, _⟩ := g.mt b (by show 0 < R b + S b; omega)
      rcases t.zn b (by rw [e]; simp) q with y | y
      · exact g.nz b (by show 0 < R b + S b; omega) y
      · omega
    · exact g'.nz b (by omega) q
  zd := g'.zd
  mt := fun b p => by
    have p : 0 < R b + S' b := p
    have h1 : R b + S b ≤ 1 := g.one b
    by_cases z : 0 < R b
    · obtain ⟨o, e, m⟩ := g.mt b (by show 0 < R b + S b; omega)
      exact ⟨o, t.kp b o e (by omega) (ntbl m), m⟩
    · exact g'.mt b (by omega)

theorem Slots.keep : ∀ {σ : L2.St} {ρ : En} {S : Ft}, Slots K Z H σ ρ S → Kp Z Z' H H' S → Slots K Z' H' σ ρ S
  | [], [], S, h, _ => h
  | _ :: σ, none :: ρ, S, h, k => by
    simp only [Slots] at h ⊢
    exact Slots.keep h k
  | some v :: σ, some dk :: ρ, S, h, k => by
    simp only [Slots] at h ⊢
    obtain ⟨S1, S2, r, s, e⟩ := h
    exact ⟨S1, S2, Rep.keep _ r (k.le fun b => by have := e b; omega), Slots.keep s (k.le fun b => by have := e b; omega), e⟩
  | none :: _, some _ :: _, _, h, _ => by simp only [Slots] at h
  | [], _ :: _, _, h, _ => by simp only [Slots] at h
  | _ :: _, [], _, h, _ => by simp only [Slots] at h
theorem Slots.ft {σ : L2.St} {ρ : En} {S S' : Ft} (h : Slots K Z H σ ρ S) (e : ∀ b, S b = S' b) : Slots K Z H σ ρ S' := by
  have : S = S' := funext e
  rw [← this]; exact h
theorem Slots.len : ∀ {σ : L2.St} {ρ : En} {S : Ft}, Slots K Z H σ ρ S → σ.length = ρ.length
  | [], [], S, h => rfl
  | _ :: σ, none :: ρ, S, h => by
    simp only [Slots] at h
    simp only [List.length_cons, Slots.len h]
  | some v :: σ, some dk :: ρ, S, h => by
    simp only [Slots] at h
    obtain ⟨S1, S2, r, s, e⟩ := h
    simp only [List.length_cons, Slots.len s]
  | none :: _, some _ :: _, _, h => by simp only [Slots] at h
  | [], _ :: _, _, h => by simp only [Slots] at h
  | _ :: _, [], _, h => by simp only [Slots] at h
/-- a slot taken out -/
theorem Slots.take : ∀ {σ : L2.St} {ρ : En} {S : Ft} {i : Nat} {dk : VD}, Slots K Z H σ ρ S → ρ[i]? = some (some dk) →
    ∃ v S1 S2, σ[i]? = some (some v) ∧ Rep K Z H dk.1 dk.2 v S1 ∧ Slots K Z H σ (ρ.set i none) S2 ∧ ∀ b, S b = S1 b + S2 b
  | [], [], _, _, _, _, e => by simp at e
  | s :: σ, none :: ρ, S, 0, dk, h, e => by simp at e
  | s :: σ, none :: ρ, S, i + 1, dk, h, e => by
    simp only [Slots] at h
    obtain ⟨v, S1, S2, h1, h2, h3, h4⟩ := Slots.take (i := i) (dk := dk) h (by simpa using e)
    exact ⟨v, S1, S2, by simpa using h1, h2, by simpa only [List.set_cons_succ, Slots] using h3, h4⟩
  | some v :: σ, some d :: ρ, S, 0, dk, h, e => by
    simp only [Slots] at h
    simp at e; subst e
    obtain ⟨S1, S2, r, s, q⟩ := h
    exact ⟨v, S1, S2, rfl, r, by simpa only [List.set_cons_zero, Slots] using s, q⟩
  | some v :: σ, some d :: ρ, S, i + 1, dk, h, e => by
    simp only [Slots] at h
    obtain ⟨Sa, Sb, r, s, q⟩ := h
    obtain ⟨v', S1, S2, h1, h2, h3, h4⟩ := Slots.take (i := i) (dk := dk) s (by simpa using e)
    refine ⟨v', S1, fun b => Sa b + S2 b, by simpa using h1, h2, ?_, fun b => by have := q b; have := h4 b; show S b = S1 b + (Sa b + S2 b); omega⟩
    simp only [List.set_cons_succ, Slots]
    exact ⟨Sa, S2, r, h3, fun _ => rfl⟩
  | none :: _, some _ :: _, _, _, _, h, _ => by simp only [Slots] at h
  | [], _ :: _, _, _, _, h, _ => by simp only [Slots] at h
  | _ :: _, [], _, _, _, _, e => by simp at e
/-- a slot forgotten -/
theorem Slots.drop : ∀ {σ : L2.St} {ρ : En} {S : Ft} (i : Nat), Slots K Z H σ ρ S → ∃ S2, Slots K Z H σ (ρ.set i none) S2 ∧ ∀ b, S2 b ≤ S b
  | [], [], S, _, h => ⟨S, h, fun _ => Nat.le_refl _⟩
  | s :: σ, none :: ρ, S, 0, h => ⟨S, by simpa only [List.set_cons_zero, Slots] using h, fun _ => Nat.le_refl _⟩
  | s :: σ, none :: ρ, S, i + 1, h => by
    simp only [Slots] at h
    obtain ⟨S2, h1, h2⟩ := Slots.drop i h
    exact ⟨S2, by simpa only [List.set_cons_succ, Slots] using h1, h2⟩
  | some v :: σ, some d :: ρ, S, 0, h => by
    simp only [Slots] at h
    obtain ⟨S1, S2, r, s, q⟩ := h
    exact ⟨S2, by simpa only [List.set_cons_zero, Slots] using s, fun b => by have := q b; omega⟩
  | some v :: σ, some d :: ρ, S, i + 1, h => by
    simp only [Slots] at h
    obtain ⟨S1, S2, r, s, q⟩ := h
    obtain ⟨S3, h1, h2⟩ := Slots.drop i s
    refine ⟨fun b => S1 b + S3 b, ?_, fun b => by have := q b; have := h2 b; show S1 b + S3 b ≤ S b; omega⟩
    simp only [List.set_cons_succ, Slots]
    exact ⟨S1, S3, r, h1, fun _ => rfl⟩
  | none :: _, some _ :: _, _, _, h => by simp only [Slots] at h
  | [], _ :: _, _, _, h => by simp only [Slots] at h
  | _ :: _, [], _, _, h => by simp only [Slots] at h
/-- an empty slot filled -/
theorem Slots.put : ∀ {σ : L2.St} {ρ : En} {S S1 : Ft} {i : Nat} {dk : VD} {v : V}, Slots K Z H σ ρ S → ρ[i]? = some none → Rep K Z H dk.1 dk.2 v S1 →
    Slots K Z H (σ.set i (some v)) (ρ.set i (some dk)) (fun b => S1 b + S b)
  | [], [], _, _, _, _, _, _, e, _ => by simp at e
  | s :: σ, none :: ρ, S, S1, 0, dk, v, h, e, r => by
    simp only [Slots] at h
    simp only [List.set_cons_zero, Slots]
    exact ⟨S1, S, r, h, fun _ => rfl⟩
  | s :: σ, none :: ρ, S, S1, i + 1, dk, v, h, e, r => by
    simp only [Slots] at h
    simp only [List.set_cons_succ, Slots]
    exact Slots.put h (by simpa using e) r
  | some w :: σ, some d :: ρ, S, S1, 0, dk, v, h, e, r => by simp at e
  | some w :: σ, some d :: ρ, S, S1, i + 1, dk, v, h, e, r => by
    simp only [Slots] at h
    obtain ⟨Sa, Sb, ra, s, q⟩ := h
    simp only [List.set_cons_succ, Slots]
    exact ⟨Sa, fun b => S1 b + Sb b, ra, Slots.put s (by simpa using e) r, fun b => by have := q b; show S1 b + S b = Sa b + (S1 b + Sb b); omega⟩
  | none :: _, some _ :: _, _, _, _, _, _, h, _, _ => by simp only [Slots] at h
  | [], _ :: _, _, _, _, _, _, h, _, _ => by simp only [Slots] at h
  | _ :: _, [], _, _, _, _, _, _, e, _ => by simp at e
theorem set_self {α : Type} {l : List α} {i : Nat} {x : α} (h : l[i]? = some x) : l.set i x = l := by
  apply List.ext_getElem?
  intro j
  by_cases e : i = j
  · subst e
    rw [List.getElem?_set_self (List.getElem?_eq_some_iff.mp h).1, h]
  · rw [List.getElem?_set_ne e]
/-- .. where the frame holds the value already -/
theorem Slots.put0 {σ : L2.St} {ρ : En} {S S1 : Ft} {i : Nat} {dk : VD} {v : V} (h : Slots K Z H σ ρ S) (e : ρ[i]? = some none) (e2 : σ[i]? = some (some v)) (r : Rep K Z H dk.1 dk.2 v S1) :
    Slots K Z H σ (ρ.set i (some dk)) (fun b => S1 b + S b) := by
  have := Slots.put h e r
  rw [set_self e2] at this
  exact this
theorem Slots.mut : ∀ {σ : L2.St} {ρ : En} {S : Ft}, Slots K Z H σ ρ S → ∀ b, 0 < S b → ∃ o, H b = some o ∧ isMutO o = true
  | [], [], S, h, b, p => by have := h b; omega
  | _ :: σ, none :: ρ, S, h, b, p => by
    simp only [Slots] at h
    exact Slots.mut h b p
  | some v :: σ, some dk :: ρ, S, h, b, p => by
    simp only [Slots] at h
    obtain ⟨S1, S2, r, s, e⟩ := h
    by_cases z : 0 < S1 b
    · exact Rep.mut _ r b z
    · exact Slots.mut s b (by have := e b; omega)
  | none :: _, some _ :: _, _, h, _, _ => by simp only [Slots] at h
  | [], _ :: _, _, h, _, _ => by simp only [Slots] at h
  | _ :: _, [], _, h, _, _ => by simp only [Slots] at h
theorem Repk.keep : ∀ {ds : List VD} {vs : List V} {S : Ft}, Repk K Z H ds vs S → Kp Z Z' H H' S → Repk K Z' H' ds vs S
  | [], _, _, h, _ => by simp only [Repk] at h ⊢; exact h
  | d :: ds, _, _, h, p => by
    simp only [Repk] at h ⊢
    obtain ⟨v, r, S1, S2, e, h1, h2, hS⟩ := h
    exact ⟨v, r, S1, S2, e, Rep.keep _ h1 (p.le fun b => by have := hS b; omega), Repk.keep h2 (p.le fun b => by have := hS b; omega), hS⟩
theorem Repk.len : ∀ {ds : List VD} {vs : List V} {S : Ft}, Repk K Z H ds vs S → vs.length = ds.length
  | [], _, _, h => by simp only [Repk] at h; rw [h.1]; rfl
  | d :: ds, _, _, h => by
    simp only [Repk] at h
    obtain ⟨v, r, S1, S2, e, h1, h2, hS⟩ := h
    rw [e, List.length_cons, List.length_cons, Repk.len h2]
theorem Repk.vws : ∀ {ds : List VD} {vs : List V} {S : Ft}, Repk K Z H ds vs S → Vws K H (ds.map (·.1)) vs
  | [], _, _, h => by simp only [Repk] at h; simp only [List.map_nil, Vws]; exact h.1
  | d :: ds, _, _, h => by
    simp only [Repk] at h
    obtain ⟨v, r, S1, S2, e, h1, h2, hS⟩ := h
    simp only [List.map_cons, Vws]
    exact ⟨v, r, e, Rep.vw _ h1, Repk.vws h2⟩
theorem Reps.len : ∀ {ds : List D} {k : Nat} {vs : List V} {S : Ft}, Reps K Z H ds k vs S → vs.length = ds.length
  | [], _, _, _, h => by simp only [Reps] at h; rw [h.1]; rfl
  | d :: ds, _, _, _, h => by
    simp only [Reps] at h
    obtain ⟨v, r, S1, S2, e, h1, h2, hS⟩ := h
    rw [e, List.length_cons, List.length_cons, Reps.len h2]
theorem Vws.len : ∀ {ds : List D} {vs : List V}, Vws K H ds vs → vs.length = ds.length
  | [], _, h => by simp only [Vws] at h; rw [h]; rfl
  | d :: ds, _, h => by
    simp only [Vws] at h
    obtain ⟨v, r, e, h1, h2⟩ := h
    rw [e, List.length_cons, List.length_cons, Vws.len h2]
/-- all given the depth j -/
theorem Repk.weak : ∀ {ds : List VD} {vs : List V} {S : Ft} (j : Nat), (∀ p ∈ ds, j ≤ p.2) → Repk K Z H ds vs S → (∀ b, S b ≤ 1) → ∃ S', (∀ b, S' b ≤ S b) ∧ Reps K (frz Z S S') H (ds.map (·.1)) j vs S'
  | [], _, S, _, _, h, _ => ⟨S, fun _ => Nat.le_refl _, by simp only [Repk] at h; simp only [List.map_nil, Reps]; exact h⟩
  | d :: ds, _, S, j, hj, h, h1 => by
    simp only [Repk] at h
    obtain ⟨v, r, S1, S2, e, p1, p2, hS⟩ := h
    obtain ⟨S1', l1, q1⟩ := Rep.weak d.1 (j := j) p1 (hj d List.mem_cons_self) (fun b => by have := hS b; have := h1 b; omega)
    obtain ⟨S2', l2, q2⟩ := Repk.weak j (fun p hp => hj p (List.mem_cons_of_mem _ hp)) p2 (fun b => by have := hS b; have := h1 b; omega)
    refine ⟨fun b => S1' b + S2' b, fun b => by have := hS b; have := l1 b; have := l2 b; show S1' b + S2' b ≤ S b; omega, ?_⟩
    simp only [List.map_cons, Reps]
    refine ⟨v, r, S1', S2', e, Rep.keep _ q1 ⟨fun b z => ?_, fun _ _ e _ _ => e⟩, Reps.keep _ q2 ⟨fun b z => ?_, fun _ _ e _ _ => e⟩, fun _ => rfl⟩
    · rcases z with z | ⟨z1, z2⟩
      · exact .inl z
      · refine .inr ⟨by have := hS b; omega, ?_⟩
        have := hS b
        have := h1 b
        have := l2 b
        show S1' b + S2' b = 0
        omega
    · rcases z with z | ⟨z1, z2⟩
      · exact .inl z
      · refine .inr ⟨by have := hS b; omega, ?_⟩
        have := hS b
        have := h1 b
        have := l1 b
        show S1' b + S2' b = 0
        omega
/-- to freeze is a transition -/
theorem Tr.frz (g : Good Z H S) (h : ∀ b, S' b ≤ S b) : Tr Z H S (frz Z S S') H S' := ⟨fun _ z => .inl z, fun _ _ e _ _ => e, fun a _ => h a, fun a _ z => by
  rcases z with z | z
  · exact .inl z
  · exact .inr z.1, fun _ n => n⟩
theorem Good.frz (g : Good Z H S) (h : ∀ b, S' b ≤ S b) : Good (frz Z S S') H S' := ⟨fun b => Nat.le_trans (h b) (g.one b), fun b p z => by
  have := h b
  rcases z with z | z
  · exact g.nz b (by omega) z
  · omega, fun b z => by
  rcases z with z | z
  · exact g.zd b z
  · obtain ⟨o, e, _⟩ := g.mt b z.1
    rw [e]; simp, fun b p => g.mt b (by have := h b; omega)⟩
theorem Kp.same (h : ∀ a, Z a → Z' a) : Kp Z Z' H H S := ⟨h, fun _ _ e _ _ => e⟩
end
end Em
set_option Elab.async false
set_option linter.all false
set_option maxRecDepth 100000
set_option maxHeartbeats 4000000
/-! Em 3: readings over plain data; expressions. -/
namespace Em
open PySem L2

abbrev Wsh := Value → Hp → Prop
def Fin (K : PySem.W.Frag) (T : List (Addr × Str)) (σ : L2.St) (ρ : En) (dk : VD) (Z : Addr → Prop) (H : Hp) (S : Ft) (Q : VK) : Prop :=
  ∀ (v : V) (H' : Hp) (Z' : Addr → Prop) (R S' : Ft), Sit K T Z' H' S' σ ρ → Rep K Z' H' dk.1 dk.2 v R → Good Z' H' (fun b => R b + S' b) → Tr Z H S Z' H' (fun b => R b + S' b) → Q v H'
def Xo (T : List (Addr × Str)) (mg : Str → Option Value) (W : Wsh) (x : Str) (H : Hp) (S : Ft) : Prop :=
  ∀ (C : Addr) (H' : Hp), mg x = some (.ref C) → LamX.Tabs T H' → TrX H S H' → W (.ref C) H'
section
variable (K : PySem.W.Frag) (T : List (Addr × Str)) (mg : Str → Option Value) (W : Wsh)
def tD (f : M VD) : TE := fun σ H Q => ∃ (Z : Addr → Prop) (S : Ft) (ρ : En), Sit K T Z H S σ ρ ∧ match f ρ with
  | .ok dk ρ' => Fin K T σ ρ' dk Z H S Q
  | .ex x => Xo T mg W x H S
  | .no => False
def tT (f : M Bool) : TT := fun σ H Q => ∃ (Z : Addr → Prop) (S : Ft) (ρ : En), Sit K T Z H S σ ρ ∧ match f ρ with
  | .ok b ρ' => ∀ (H' : Hp) (Z' : Addr → Prop) (S' : Ft), Sit K T Z' H' S' σ ρ' → Tr Z H S Z' H' S' → Q b H'
  | .ex x => Xo T mg W x H S
  | .no => False
def FinL (σ : L2.St) (ρ : En) (ds : List VD) (Z : Addr → Prop) (H : Hp) (S : Ft) (Q : List V → Hp → Prop) : Prop :=
  ∀ (vs : List V) (H' : Hp) (Z' : Addr → Prop) (R S' : Ft), Sit K T Z' H' S' σ ρ → Repk K Z' H' ds vs R → Good Z' H' (fun b => R b + S' b) → Tr Z H S Z' H' (fun b => R b + S' b) → Q vs H'
def tL (f : M (List VD)) : TA := fun σ H Q => ∃ (Z : Addr → Prop) (S : Ft) (ρ : En), Sit K T Z H S σ ρ ∧ match f ρ with
  | .ok ds ρ' => FinL K T σ ρ' ds Z H S Q
  | .ex x => Xo T mg W x H S
  | .no => False
/-- still: nothing moves, nothing is given up -/
def tS (h : En → Option D) : TE := fun σ H Q => ∃ (Z : Addr → Prop) (S : Ft) (ρ : En) (d : D), Sit K T Z H S σ ρ ∧ h ρ = some d ∧ ∀ v, Vw K H d v → Q v H
def tSL (h : En → Option (List D)) : TA := fun σ H Q => ∃ (Z : Addr → Prop) (S : Ft) (ρ : En) (ds : List D), Sit K T Z H S σ ρ ∧ h ρ = some ds ∧ ∀ vs, Vws K H ds vs → Q vs H
end
abbrev DE (X : Cx) (T : List (Addr × Str)) (W : Wsh) (e : Expr) (f : M VD) : Prop := PE X e (tD X.K T X.mg W f)
abbrev DT (X : Cx) (T : List (Addr × Str)) (W : Wsh) (e : Expr) (f : M Bool) : Prop := PT X e (tT X.K T X.mg W f)
abbrev DA (X : Cx) (T : List (Addr × Str)) (W : Wsh) (es : List Expr) (f : M (List VD)) : Prop := PA X es (tL X.K T X.mg W f)
abbrev DS (X : Cx) (T : List (Addr × Str)) (e : Expr) (h : En → Option D) : Prop := PE X e (tS X.K T h)
abbrev DSA (X : Cx) (T : List (Addr × Str)) (es : List Expr) (h : En → Option (List D)) : Prop := PA X es (tSL X.K T h)

theorem PE.imp {X : Cx} {e : Expr} {t t' : TE} (h : PE X e t) (i : ∀ σ H Q, t' σ H Q → t σ H Q) : PE X e t' := ⟨fun pins s σ H Q I q => h.run pins s σ H Q I (i σ H Q q)⟩
theorem PT.imp {X : Cx} {e : Expr} {t t' : TT} (h : PT X e t) (i : ∀ σ H Q, t' σ H Q → t σ H Q) : PT X e t' := ⟨fun pins s σ H Q I q => h.run pins s σ H Q I (i σ H Q q)⟩
theorem PW.imp {X : Cx} {e : Expr} {t t' : TT} (h : PW X e t) (i : ∀ σ H Q, t' σ H Q → t σ H Q) : PW X e t' := ⟨fun wh pins s σ H Q I q => h.run wh pins s σ H Q I (i σ H Q q)⟩
theorem PA.imp {X : Cx} {es : List Expr} {t t' : TA} (h : PA X es t) (i : ∀ σ H Q, t' σ H Q → t σ H Q) : PA X es t' := ⟨fun pos pins s σ H Q I q => h.run pos pins s σ H Q I (i σ H Q q)⟩
theorem PS.imp {X : Cx} {e : Stmt} {t t' : TS} (h : PS X e t) (i : ∀ D σ H, t' D σ H → t D σ H) : PS X e t' := ⟨fun pins s σ H D I q => h.run pins s σ H D I (i D σ H q)⟩
theorem PSs.imp {X : Cx} {e : List Stmt} {t t' : TS} (h : PSs X e t) (i : ∀ D σ H, t' D σ H → t D σ H) : PSs X e t' := ⟨fun pins s σ H D I q => h.run pins s σ H D I (i D σ H q)⟩

/-! ### the functions -/
def toV : D → Option V
  | .non => some .non | .bl b => some (.bl b) | .int i => some (.int i) | .str x => some (.str x) | _ => none
def nilM : M (List VD) := fun ρ => .ok [] ρ
def consM (f : M VD) (g : M (List VD)) : M (List VD) := fun ρ => match f ρ with
  | .ok d ρ1 => (match g ρ1 with | .ok ds ρ2 => .ok (d :: ds) ρ2 | .ex x => .ex x | .no => .no)
  | .ex x => .ex x
  | .no => .no
def opM (o : List VD → Option VD) (f : M (List VD)) : M VD := fun ρ => match f ρ with
  | .ok ds ρ1 => (match o ds with | some d => .ok d ρ1 | none => .no)
  | .ex x => .ex x
  | .no => .no
/-- a name, given up to be read by all -/
def rdM (i : Nat) : M VD := fun ρ => match ρ[i]? with
  | some (some dk) => .ok (dk.1, 0) (ρ.set i (some (dk.1, 0)))
  | _ => .no
def cM (d : D) : M VD := fun ρ => .ok (d, 0) ρ
def stM (h : En → Option D) : M VD := fun ρ => match h ρ with
  | some d => (match toV d with | some _ => .ok (d, 0) ρ | none => .no)
  | none => .no
def stT (h : En → Option D) : M Bool := fun ρ => match h ρ with
  | some (.bl b) => .ok b ρ
  | _ => .no
def valT (f : M VD) : M Bool := fun ρ => match f ρ with
  | .ok (.bl b, _) ρ1 => .ok b ρ1
  | .ok _ _ => .no
  | .ex x => .ex x
  | .no => .no
def notT (f : M Bool) : M Bool := fun ρ => match f ρ with | .ok b ρ1 => .ok (!b) ρ1 | .ex x => .ex x | .no => .no
def andT (f g : M Bool) : M Bool := fun ρ => match f ρ with | .ok true ρ1 => g ρ1 | .ok false ρ1 => .ok false ρ1 | .ex x => .ex x | .no => .no
def orT (f g : M Bool) : M Bool := fun ρ => match f ρ with | .ok true ρ1 => .ok true ρ1 | .ok false ρ1 => g ρ1 | .ex x => .ex x | .no => .no
def ifM (c : M Bool) (f g : M VD) : M VD := fun ρ => match c ρ with | .ok true ρ1 => f ρ1 | .ok false ρ1 => g ρ1 | .ex x => .ex x | .no => .no
def andM (f g : M VD) : M VD := fun ρ => match f ρ with | .ok (.bl true, _) ρ1 => g ρ1 | .ok (.bl false, _) ρ1 => .ok (.bl false, 0) ρ1 | .ok _ _ => .no | .ex x => .ex x | .no => .no
def orM (f g : M VD) : M VD := fun ρ => match f ρ with | .ok (.bl true, _) ρ1 => .ok (.bl true, 0) ρ1 | .ok (.bl false, _) ρ1 => g ρ1 | .ok _ _ => .no | .ex x => .ex x | .no => .no
/-- still ones -/
def vS (i : Nat) : En → Option D := fun ρ => match ρ[i]? with | some (some dk) => some dk.1 | _ => none
def cS (d : D) : En → Option D := fun _ => some d
def nilS : En → Option (List D) := fun _ => some []
def consS (f : En → Option D) (g : En → Option (List D)) : En → Option (List D) := fun ρ => match f ρ, g ρ with | some d, some ds => some (d :: ds) | _, _ => none
def opS (o : List D → Option D) (g : En → Option (List D)) : En → Option D := fun ρ => (g ρ).bind o

section
variable {K : PySem.W.Frag} {T : List (Addr × Str)} {mg : Str → Option Value} {W : Wsh} {Z Z' : Addr → Prop} {H H' : Hp} {S S' R : Ft} {σ : L2.St} {ρ ρ1 : En} {Q : VK}
theorem rep_at {d : D} {v : V} (e : toV d = some v) (k : Nat) (h : ∀ b, S b = 0) : Rep K Z H d k v S := by
  cases d <;> simp only [toV, Option.some.injEq, reduceCtorEq] at e <;> subst e <;> simp only [Rep] <;> exact ⟨trivial, h⟩
theorem at_vw {d : D} {v w : V} (e : toV d = some v) (h : Vw K H d w) : w = v := by
  cases d <;> simp only [toV, Option.some.injEq, reduceCtorEq] at e <;> subst e <;> simpa only [Vw] using h
theorem at_rep {d : D} {v w : V} {k : Nat} (e : toV d = some v) (h : Rep K Z H d k w S) : w = v := at_vw e (Rep.vw _ h)
theorem Sit.good0 (s : Sit K T Z H S σ ρ) : Good Z H (fun b => 0 + S b) := s.gd.eq fun b => by simp
/-- an atom, nothing moved -/
theorem Fin.at {d : D} {v : V} {k : Nat} (h : Fin K T σ ρ (d, k) Z H S Q) (s : Sit K T Z H S σ ρ) (e : toV d = some v) : Q v H :=
  h v H Z (fun _ => 0) S s (rep_at e k fun _ => rfl) s.good0 (Tr.refl fun b => by simp)
theorem Tr.eq (t : Tr Z H S Z' H' S') {S2 : Ft} (h : ∀ b, S' b = S2 b) : Tr Z H S Z' H' S2 := t.le fun b => by rw [h b]; exact Nat.le_refl _
theorem Sit.kept (s : Sit K T Z H S σ ρ) (k : Kp Z Z' H H' S) (g : Good Z' H' S) (t : LamX.Tabs T H') : Sit K T Z' H' S σ ρ := ⟨s.sl.keep k, g, t⟩

/-- an item read, then the others, over one state -/
theorem tL_cons {f : M VD} {g : M (List VD)} {Q : List V → Hp → Prop} (h : tL K T mg W (consM f g) σ H Q) : tD K T mg W f σ H fun x H1 => tL K T mg W g σ H1 fun xs H2 => Q (x :: xs) H2 := by
  obtain ⟨Z, S, ρ, sit, h⟩ := h
  refine ⟨Z, S, ρ, sit, ?_⟩
  unfold consM at h
  cases e : f ρ with
  | no => rw [e] at h; exact h
  | ex x => rw [e] at h; exact h
  | ok dk ρ1 =>
    rw [e] at h
    intro v H1 Z1 R S1 sit1 rep1 gd1 tr1
    refine ⟨Z1, S1, ρ1, sit1, ?_⟩
    dsimp only at h
    cases e2 : g ρ1 with
    | no => rw [e2] at h; exact h
    | ex x =>
      rw [e2] at h
      intro C H' hm hT hx
      exact h C H' hm hT (tr1.thenX hx fun x => by omega)
    | ok ds ρ2 =>
      rw [e2] at h
      intro vs H2 Z2 R2 S2 sit2 rep2 gd2 tr2
      refine h (v :: vs) H2 Z2 (fun b => R b + R2 b) S2 sit2 ?_ ((gd1.hold tr2 gd2).eq fun b => by show R b + (R2 b + S2 b) = (R b + R2 b) + S2 b; omega)
        ((tr1.trans (tr2.hold R)).eq fun b => by show R b + (R2 b + S2 b) = (R b + R2 b) + S2 b; omega)
      simp only [Repk]
      exact ⟨v, vs, R, R2, rfl, Rep.keep _ rep1 (gd1.kp tr2), rep2, fun _ => rfl⟩
theorem tL_nil {Q : List V → Hp → Prop} (h : tL K T mg W nilM σ H Q) : Q [] H := by
  obtain ⟨Z, S, ρ, sit, h⟩ := h
  exact h [] H Z (fun _ => 0) S sit (by unfold Repk; exact ⟨rfl, fun _ => rfl⟩) sit.good0 (Tr.refl fun b => by simp)
/-- the function of a call, an operator: by the values' data and what they own -/
def CallD (K : PySem.W.Frag) (T : List (Addr × Str)) (r : List V → Hp → VK → Prop) (o : List VD → Option VD) : Prop :=
  ∀ (Z : Addr → Prop) (H : Hp) (R : Ft) (ds : List VD) (vs : List V) (dk : VD) (Q : VK), Repk K Z H ds vs R → Good Z H R → LamX.Tabs T H → o ds = some dk →
    (∀ (v : V) (H' : Hp) (Z' : Addr → Prop) (R' : Ft), LamX.Tabs T H' → Rep K Z' H' dk.1 dk.2 v R' → Good Z' H' R' → Tr Z H R Z' H' R' → Q v H') → r vs H Q
/-- .. that hands back an atom -/
def CallV (K : PySem.W.Frag) (r : List V → Hp → VK → Prop) (o : List D → Option D) : Prop :=
  ∀ (H : Hp) (ds : List D) (vs : List V) (d : D), Vws K H ds vs → o ds = some d → ∃ v, toV d = some v ∧ ∀ Q : VK, Q v H → r vs H Q
def liftO (o : List D → Option D) : List VD → Option VD := fun ds => (o (ds.map (·.1))).map fun d => (d, 0)
theorem CallV.d {r : List V → Hp → VK → Prop} {o : List D → Option D} (h : CallV K r o) : CallD K T r (liftO o) := by
  intro Z H R ds vs dk Q hr g tb e q
  unfold liftO at e
  cases e1 : o (ds.map (·.1)) with
  | none => rw [e1] at e; cases e
  | some d =>
    rw [e1] at e
    cases e
    obtain ⟨v, hv, hq⟩ := h H _ vs d hr.vws e1
    exact hq Q (q v H Z (fun _ => 0) tb (rep_at hv _ fun _ => rfl) (g.le fun b => Nat.zero_le _) (Tr.refl fun b => Nat.zero_le _))
theorem tD_op {r : List V → Hp → VK → Prop} {o : List VD → Option VD} (hr : CallD K T r o) {f : M (List VD)} (h : tD K T mg W (opM o f) σ H Q) : tL K T mg W f σ H fun vs H1 => r vs H1 Q := by
  obtain ⟨Z, S, ρ, sit, h⟩ := h
  refine ⟨Z, S, ρ, sit, ?_⟩
  unfold opM at h
  cases e : f ρ with
  | no => rw [e] at h; exact h
  | ex x => rw [e] at h; exact h
  | ok ds ρ1 =>
    rw [e] at h
    dsimp only at h
    intro vs H1 Z1 R S1 sit1 rep1 gd1 tr1
    cases e2 : o ds with
    | none => rw [e2] at h; exact h.elim
    | some dk =>
      rw [e2] at h
      have gs : Good Z1 H1 (fun b => S1 b + R b) := gd1.eq fun b => Nat.add_comm _ _
      refine hr Z1 H1 R ds vs dk Q rep1 (gd1.le fun b => Nat.le_add_right _ _) sit1.tb e2 fun v H2 Z2 R2 tb rep2 gd2 tr2 => ?_
      have g2 := gs.hold tr2 gd2
      exact h v H2 Z2 R2 S1 (sit1.kept (gs.kp tr2) (g2.le fun b => Nat.le_add_right _ _) tb) rep2 (g2.eq fun b => Nat.add_comm _ _)
        (tr1.trans (((tr2.hold S1).le (S1 := fun b => R2 b + S1 b) fun b => by show R2 b + S1 b ≤ S1 b + R2 b; omega).from fun b => by show S1 b + R b ≤ R b + S1 b; omega))
/-! ### still expressions -/
theorem tSL_cons {f : En → Option D} {g : En → Option (List D)} {Q : List V → Hp → Prop} (h : tSL K T (consS f g) σ H Q) : tS K T f σ H fun x H1 => tSL K T g σ H1 fun xs H2 => Q (x :: xs) H2 := by
  obtain ⟨Z, S, ρ, ds, sit, e, h⟩ := h
  unfold consS at e
  cases e1 : f ρ with
  | none => rw [e1] at e; cases e
  | some d =>
    cases e2 : g ρ with
    | none => rw [e1, e2] at e; cases e
    | some dr =>
      rw [e1, e2] at e
      cases e
      refine ⟨Z, S, ρ, d, sit, e1, fun v hv => ⟨Z, S, ρ, dr, sit, e2, fun vs hvs => h (v :: vs) ?_⟩⟩
      simp only [Vws]
      exact ⟨v, vs, rfl, hv, hvs⟩
theorem tSL_nil {Q : List V → Hp → Prop} (h : tSL K T nilS σ H Q) : Q [] H := by
  obtain ⟨Z, S, ρ, ds, sit, e, h⟩ := h
  cases e
  exact h [] (by simp only [Vws])
theorem tS_op {r : List V → Hp → VK → Prop} {o : List D → Option D} (hr : CallV K r o) {f : En → Option (List D)} (h : tS K T (opS o f) σ H Q) : tSL K T f σ H fun vs H1 => r vs H1 Q := by
  obtain ⟨Z, S, ρ, d, sit, e, h⟩ := h
  unfold opS at e
  cases e1 : f ρ with
  | none => rw [e1] at e; cases e
  | some ds =>
    rw [e1] at e
    refine ⟨Z, S, ρ, ds, sit, e1, fun vs hvs => ?_⟩
    obtain ⟨v, hv, hq⟩ := hr H ds vs d hvs e
    refine hq Q (h v ?_)
    have := rep_at (K := K) (Z := Z) (H := H) (S := fun _ => 0) hv 0 (fun _ => rfl)
    exact Rep.vw _ this
/-- a still expression with an atom -/
theorem tD_still {h : En → Option D} (q : tD K T mg W (stM h) σ H Q) : tS K T h σ H Q := by
  obtain ⟨Z, S, ρ, sit, q⟩ := q
  unfold stM at q
  cases e : h ρ with
  | none => rw [e] at q; exact q.elim
  | some d =>
    rw [e] at q
    cases e2 : toV d with
    | none => simp only [e2] at q
    | some v =>
      simp only [e2] at q
      exact ⟨Z, S, ρ, d, sit, e, fun w hw => by rw [at_vw e2 hw]; exact Fin.at q sit e2⟩
/-- a borrowed argument at the end -/
def bor (f : M (List VD)) (h : En → Option D) (o : List D → Option D) : M VD := fun ρ => match f ρ with
  | .ok ds ρ1 => (match h ρ1 with | some d => (match o (ds.map (·.1) ++ [d]) with | some r => .ok (r, 0) ρ1 | none => .no) | none => .no)
  | .ex x => .ex x
  | .no => .no
end
end Em
set_option Elab.async false
set_option linter.all false
set_option maxRecDepth 100000
set_option maxHeartbeats 4000000
/-! Em 4: names, constants, operators, tests. -/
namespace Em
open PySem L2

section
variable {K : PySem.W.Frag} {T : List (Addr × Str)} {mg : Str → Option Value} {W : Wsh} {Z Z' : Addr → Prop} {H H' : Hp} {S S' R : Ft} {σ : L2.St} {ρ ρ1 : En} {Q : VK}
theorem rep_ft {d : D} {k : Nat} {v : V} {S S' : Ft} (h : Rep K Z H d k v S) (e : ∀ b, S b = S' b) : Rep K Z H d k v S' := by
  have : S = S' := funext e
  rw [← this]; exact h
/-- a slot taken out, to the depth j -/
theorem sit_take {i j : Nat} {dk : VD} (s : Sit K T Z H S σ ρ) (e : ρ[i]? = some (some dk)) (hj : j ≤ dk.2) :
    ∃ (v : V) (Z' : Addr → Prop) (R S' : Ft), σ[i]? = some (some v) ∧ Rep K Z' H dk.1 j v R ∧ Sit K T Z' H S' σ (ρ.set i none) ∧ Good Z' H (fun b => R b + S' b) ∧ Tr Z H S Z' H (fun b => R b + S' b) := by
  obtain ⟨v, S1, S2, e1, r, sl, hS⟩ := s.sl.take e
  obtain ⟨R, l, r'⟩ := Rep.weak dk.1 r hj (fun b => by have := hS b; have := s.gd.one b; omega)
  have hle : ∀ b, R b + S2 b ≤ S b := fun b => by have := hS b; have := l b; omega
  have hz : ∀ a, frz Z S1 R a → frz Z S (fun b => R b + S2 b) a := fun a z => by
    rcases z with z | ⟨z1, z2⟩
    · exact .inl z
    · refine .inr ⟨by have := hS a; omega, ?_⟩
      have := hS a; have := s.gd.one a
      show R a + S2 a = 0
      omega
  refine ⟨v, frz Z S (fun b => R b + S2 b), R, S2, e1, Rep.keep _ r' (.same hz), ⟨sl.keep (.same fun a z => .inl z), (s.gd.frz (S' := fun b => R b + S2 b) hle).le fun b => Nat.le_add_left _ _, s.tb⟩, s.gd.frz hle, Tr.frz s.gd hle⟩
theorem sit_put {i : Nat} {dk : VD} {v : V} (s : Sit K T Z H S σ ρ) (e : ρ[i]? = some none) (e2 : σ[i]? = some (some v)) (r : Rep K Z H dk.1 dk.2 v R) (g : Good Z H (fun b => R b + S b)) : Sit K T Z H (fun b => R b + S b) σ (ρ.set i (some dk)) :=
  ⟨s.sl.put0 e e2 r, g, s.tb⟩
theorem get_set_none {α : Type} {l : List (Option α)} {i : Nat} {x : Option α} (h : l[i]? = some x) : (l.set i none)[i]? = some none := by
  rw [List.getElem?_set_self (List.getElem?_eq_some_iff.mp h).1]
theorem set_none_set {α : Type} {l : List (Option α)} {i : Nat} {x : Option α} : (l.set i none).set i x = l.set i x := List.set_set ..
theorem tD_rd {i : Nat} (h : tD K T mg W (rdM i) σ H Q) : tVar i σ H Q := by
  obtain ⟨Z, S, ρ, sit, h⟩ := h
  unfold rdM at h
  cases e : ρ[i]? with
  | none => simp only [e] at h
  | some o =>
    cases o with
    | none => simp only [e] at h
    | some dk =>
      simp only [e] at h
      obtain ⟨v, Z', R, S', e1, r, s', g', t'⟩ := sit_take (j := 0) sit e (Nat.zero_le _)
      have r0 := Rep.zero _ r
      refine ⟨v, e1, ?_⟩
      have sp := sit_put (dk := (dk.1, 0)) s' (get_set_none e) e1 r g'
      rw [set_none_set] at sp
      exact h v H Z' R (fun b => R b + S' b) sp r (g'.eq fun b => by show R b + S' b = R b + (R b + S' b); rw [r0 b]; omega) (t'.eq fun b => by show R b + S' b = R b + (R b + S' b); rw [r0 b]; omega)
theorem tS_v {i : Nat} (h : tS K T (vS i) σ H Q) : tVar i σ H Q := by
  obtain ⟨Z, S, ρ, d, sit, e, h⟩ := h
  unfold vS at e
  split at e
  · rename_i dk e2
    cases e
    obtain ⟨v, S1, S2, e1, r, sl, hS⟩ := sit.sl.take e2
    exact ⟨v, e1, h v (Rep.vw _ r)⟩
  · cases e
theorem tT_val {f : M VD} {Q : Bool → Hp → Prop} (h : tT K T mg W (valT f) σ H Q) : tD K T mg W f σ H fun x H1 => ∃ c, x = .bl c ∧ Q c H1 := by
  obtain ⟨Z, S, ρ, sit, h⟩ := h
  refine ⟨Z, S, ρ, sit, ?_⟩
  unfold valT at h
  cases e : f ρ with
  | no => rw [e] at h; exact h
  | ex x => rw [e] at h; exact h
  | ok dk ρ1 =>
    obtain ⟨d, k⟩ := dk
    rw [e] at h
    cases d with
    | bl c =>
      intro v H' Z' R S' s' r g t
      exact ⟨c, at_rep rfl r, h H' Z' S' s' (t.le fun b => Nat.le_add_left _ _)⟩
    | _ => exact h.elim
theorem tT_still {f : En → Option D} {Q : Bool → Hp → Prop} (h : tT K T mg W (stT f) σ H Q) : tS K T f σ H fun x H1 => ∃ c, x = .bl c ∧ Q c H1 := by
  obtain ⟨Z, S, ρ, sit, h⟩ := h
  unfold stT at h
  cases e : f ρ with
  | none => rw [e] at h; exact h.elim
  | some d =>
    rw [e] at h
    cases d with
    | bl c => exact ⟨Z, S, ρ, .bl c, sit, e, fun v hv => ⟨c, at_vw rfl hv, h H Z S sit (Tr.refl fun b => Nat.le_refl _)⟩⟩
    | _ => exact h.elim
theorem tT_not {f : M Bool} {Q : Bool → Hp → Prop} (h : tT K T mg W (notT f) σ H Q) : tNot (tT K T mg W f) σ H Q := by
  obtain ⟨Z, S, ρ, sit, h⟩ := h
  refine ⟨Z, S, ρ, sit, ?_⟩
  unfold notT at h
  cases e : f ρ with
  | no => rw [e] at h; exact h
  | ex x => rw [e] at h; exact h
  | ok b ρ1 =>
    rw [e] at h
    exact h
theorem tT_and {f g : M Bool} {Q : Bool → Hp → Prop} (h : tT K T mg W (andT f g) σ H Q) : tAnd (tT K T mg W f) (tT K T mg W g) σ H Q := by
  obtain ⟨Z, S, ρ, sit, h⟩ := h
  refine ⟨Z, S, ρ, sit, ?_⟩
  unfold andT at h
  cases e : f ρ with
  | no => rw [e] at h; exact h
  | ex x => rw [e] at h; exact h
  | ok b ρ1 =>
    rw [e] at h
    intro H1 Z1 S1 s1 t1
    cases b with
    | false => exact h H1 Z1 S1 s1 t1
    | true =>
      refine iteT ⟨Z1, S1, ρ1, s1, ?_⟩
      dsimp only at h
      cases e2 : g ρ1 with
      | no => rw [e2] at h; exact h
      | ex x => rw [e2] at h; exact fun C H' hm ht hx => h C H' hm ht (t1.thenX hx fun x => Nat.le_refl _)
      | ok b2 ρ2 => rw [e2] at h; exact fun H2 Z2 S2 s2 t2 => h H2 Z2 S2 s2 (t1.trans t2)
theorem tT_or {f g : M Bool} {Q : Bool → Hp → Prop} (h : tT K T mg W (orT f g) σ H Q) : tOr (tT K T mg W f) (tT K T mg W g) σ H Q := by
  obtain ⟨Z, S, ρ, sit, h⟩ := h
  refine ⟨Z, S, ρ, sit, ?_⟩
  unfold orT at h
  cases e : f ρ with
  | no => rw [e] at h; exact h
  | ex x => rw [e] at h; exact h
  | ok b ρ1 =>
    rw [e] at h
    intro H1 Z1 S1 s1 t1
    cases b with
    | true => exact iteT (h H1 Z1 S1 s1 t1)
    | false =>
      refine iteF ⟨Z1, S1, ρ1, s1, ?_⟩
      dsimp only at h
      cases e2 : g ρ1 with
      | no => rw [e2] at h; exact h
      | ex x => rw [e2] at h; exact fun C H' hm ht hx => h C H' hm ht (t1.thenX hx fun x => Nat.le_refl _)
      | ok b2 ρ2 => rw [e2] at h; exact fun H2 Z2 S2 s2 t2 => h H2 Z2 S2 s2 (t1.trans t2)
/-- on behind a transition -/
theorem fin_on {f : M VD} {Z1 : Addr → Prop} {H1 : Hp} {S1 : Ft} (t : Tr Z H S Z1 H1 S1) (s1 : Sit K T Z1 H1 S1 σ ρ1)
    (h : match f ρ1 with | .ok dk ρ' => Fin K T σ ρ' dk Z H S Q | .ex x => Xo T mg W x H S | .no => False) : tD K T mg W f σ H1 Q := by
  refine ⟨Z1, S1, ρ1, s1, ?_⟩
  cases e2 : f ρ1 with
  | no => rw [e2] at h; exact h
  | ex x => rw [e2] at h; exact fun C H' hm ht hx => h C H' hm ht (t.thenX hx fun x => Nat.le_refl _)
  | ok b2 ρ2 => rw [e2] at h; exact fun v H2 Z2 R2 S2 s2 r2 g2 t2 => h v H2 Z2 R2 S2 s2 r2 g2 (t.trans t2)
theorem tD_if {c : M Bool} {f g : M VD} (h : tD K T mg W (ifM c f g) σ H Q) : tIf (tT K T mg W c) (tD K T mg W f) (tD K T mg W g) σ H Q := by
  obtain ⟨Z, S, ρ, sit, h⟩ := h
  refine ⟨Z, S, ρ, sit, ?_⟩
  unfold ifM at h
  cases e : c ρ with
  | no => rw [e] at h; exact h
  | ex x => rw [e] at h; exact h
  | ok b ρ1 =>
    rw [e] at h
    intro H1 Z1 S1 s1 t1
    cases b with
    | true => exact iteT (fin_on t1 s1 h)
    | false => exact iteF (fin_on t1 s1 h)
theorem tD_and {f g : M VD} (h : tD K T mg W (andM f g) σ H Q) : tAndV (tD K T mg W f) (tD K T mg W g) σ H Q := by
  obtain ⟨Z, S, ρ, sit, h⟩ := h
  refine ⟨Z, S, ρ, sit, ?_⟩
  unfold andM at h
  cases e : f ρ with
  | no => rw [e] at h; exact h
  | ex x => rw [e] at h; exact h
  | ok dk ρ1 =>
    obtain ⟨d, k⟩ := dk
    rw [e] at h
    cases d with
    | bl c =>
      intro v H1 Z1 R S1 s1 r g1 t1
      refine ⟨c, at_rep rfl r, ?_⟩
      cases c with
      | true => exact iteT (fin_on (t1.le fun b => Nat.le_add_left _ _) s1 h)
      | false => exact iteF (h _ H1 Z1 (fun _ => 0) S1 s1 (rep_at rfl _ fun _ => rfl) s1.good0 (t1.le fun b => by show 0 + S1 b ≤ _; omega))
    | _ => exact h.elim
theorem tD_or {f g : M VD} (h : tD K T mg W (orM f g) σ H Q) : tOrV (tD K T mg W f) (tD K T mg W g) σ H Q := by
  obtain ⟨Z, S, ρ, sit, h⟩ := h
  refine ⟨Z, S, ρ, sit, ?_⟩
  unfold orM at h
  cases e : f ρ with
  | no => rw [e] at h; exact h
  | ex x => rw [e] at h; exact h
  | ok dk ρ1 =>
    obtain ⟨d, k⟩ := dk
    rw [e] at h
    cases d with
    | bl c =>
      intro v H1 Z1 R S1 s1 r g1 t1
      refine ⟨c, at_rep rfl r, ?_⟩
      cases c with
      | false => exact iteF (fin_on (t1.le fun b => Nat.le_add_left _ _) s1 h)
      | true => exact iteT (h _ H1 Z1 (fun _ => 0) S1 s1 (rep_at rfl _ fun _ => rfl) s1.good0 (t1.le fun b => by show 0 + S1 b ≤ _; omega))
    | _ => exact h.elim
/-- a still function of a call: its answer may be seen, not owned -/
def CallS (K : PySem.W.Frag) (r : List V → Hp → VK → Prop) (o : List D → Option D) : Prop :=
  ∀ (H : Hp) (ds : List D) (vs : List V) (d : D), Vws K H ds vs → o ds = some d → ∃ v, Vw K H d v ∧ ∀ Q : VK, Q v H → r vs H Q
theorem CallV.s {r : List V → Hp → VK → Prop} {o : List D → Option D} (h : CallV K r o) : CallS K r o := fun H ds vs d hv e => by
  obtain ⟨v, hv', hq⟩ := h H ds vs d hv e
  exact ⟨v, Rep.vw (Z := fun _ => False) (S := fun _ => 0) (k := 0) _ (rep_at hv' 0 fun _ => rfl), hq⟩
theorem tS_opS {r : List V → Hp → VK → Prop} {o : List D → Option D} (hr : CallS K r o) {f : En → Option (List D)} (h : tS K T (opS o f) σ H Q) : tSL K T f σ H fun vs H1 => r vs H1 Q := by
  obtain ⟨Z, S, ρ, d, sit, e, h⟩ := h
  unfold opS at e
  cases e1 : f ρ with
  | none => rw [e1] at e; cases e
  | some ds =>
    rw [e1] at e
    refine ⟨Z, S, ρ, ds, sit, e1, fun vs hvs => ?_⟩
    obtain ⟨v, hv, hq⟩ := hr H ds vs d hvs e
    exact hq Q (h v hv)
/-- two values, as a list -/
def r2 (r : R2) : List V → Hp → VK → Prop := fun vs H Q => ∃ x y, vs = [x, y] ∧ r x y H Q
theorem r2_two {r : R2} {x y : V} {H : Hp} {Q : VK} (h : r2 r [x, y] H Q) : r x y H Q := by
  obtain ⟨a, b, e, h⟩ := h
  cases e
  exact h
theorem tD_two {r : R2} {o : List VD → Option VD} (hr : CallD K T (r2 r) o) {f g : M VD} (h : tD K T mg W (opM o (consM f (consM g nilM))) σ H Q) : tOp r (tD K T mg W f) (tD K T mg W g) σ H Q := by
  have h1 := tL_cons (tD_op hr h)
  obtain ⟨Z, S, ρ, sit, h1⟩ := h1
  refine ⟨Z, S, ρ, sit, ?_⟩
  cases e : f ρ with
  | no => rw [e] at h1; exact h1
  | ex x => rw [e] at h1; exact h1
  | ok dk ρ1 =>
    rw [e] at h1
    intro v H1 Z1 R S1 s1 r1 g1 t1
    have h2 := tL_cons (h1 v H1 Z1 R S1 s1 r1 g1 t1)
    obtain ⟨Z, S, ρ, sit, h2⟩ := h2
    refine ⟨Z, S, ρ, sit, ?_⟩
    cases e : g ρ with
    | no => rw [e] at h2; exact h2
    | ex x => rw [e] at h2; exact h2
    | ok dk ρ1 =>
      rw [e] at h2
      intro v2 H2 Z2 R2 S2 s2 r2' g2 t2
      exact r2_two (tL_nil (h2 v2 H2 Z2 R2 S2 s2 r2' g2 t2))
theorem tS_two {r : R2} {o : List D → Option D} (hr : CallS K (r2 r) o) {f g : En → Option D} (h : tS K T (opS o (consS f (consS g nilS))) σ H Q) : tOp r (tS K T f) (tS K T g) σ H Q := by
  obtain ⟨Z, S, ρ, d, sit, e, h1⟩ := tSL_cons (tS_opS hr h)
  refine ⟨Z, S, ρ, d, sit, e, fun v hv => ?_⟩
  obtain ⟨Z, S, ρ, d, sit, e, h2⟩ := tSL_cons (h1 v hv)
  refine ⟨Z, S, ρ, d, sit, e, fun v2 hv2 => r2_two (tSL_nil (h2 v2 hv2))⟩
/-- one owned, one only seen -/
theorem tD_bor {r : R2} {o : List D → Option D} (hr : CallV K (r2 r) o) {f : M VD} {g : En → Option D} (h : tD K T mg W (bor (consM f nilM) g o) σ H Q) : tOp r (tD K T mg W f) (tS K T g) σ H Q := by
  obtain ⟨Z, S, ρ, sit, h⟩ := h
  refine ⟨Z, S, ρ, sit, ?_⟩
  unfold bor consM nilM at h
  cases e : f ρ with
  | no => rw [e] at h; exact h
  | ex x => rw [e] at h; exact h
  | ok dk ρ1 =>
    rw [e] at h
    intro v H1 Z1 R S1 s1 r1 g1 t1
    dsimp only at h
    cases e2 : g ρ1 with
    | none => rw [e2] at h; exact h.elim
    | some d =>
      rw [e2] at h
      dsimp only at h
      refine ⟨Z1, S1, ρ1, d, s1, e2, fun w hw => ?_⟩
      cases e3 : o ([dk].map (·.1) ++ [d]) with
      | none => rw [e3] at h; exact h.elim
      | some res =>
        rw [e3] at h
        obtain ⟨x, hx, hq⟩ := hr H1 [dk.1, d] [v, w] res (by simp only [Vws]; exact ⟨v, [w], rfl, Rep.vw _ r1, w, [], rfl, hw, rfl⟩) e3
        exact r2_two (hq Q (h x H1 Z1 (fun _ => 0) S1 s1 (rep_at hx _ fun _ => rfl) s1.good0 (t1.le fun b => by show 0 + S1 b ≤ _; omega)))
end

section
variable {X : Cx} {T : List (Addr × Str)} {W : Wsh} {a b c : Expr} {f g : M VD} {hS gS cS' : En → Option D} {pos : Pos} {x : Str}
theorem tC_of {v : V} {d : D} (e : toV d = some v) {σ : L2.St} {H : Hp} {Q : VK} (h : tD X.K T X.mg W (cM d) σ H Q) : tC v σ H Q := by
  obtain ⟨Z, S, ρ, sit, h⟩ := h
  exact Fin.at h sit e
theorem tCS_of {v : V} {d : D} (e : toV d = some v) {σ : L2.St} {H : Hp} {Q : VK} (h : tS X.K T (Em.cS d) σ H Q) : tC v σ H Q := by
  obtain ⟨Z, S, ρ, d', sit, e1, h⟩ := h
  cases e1
  exact h v (Rep.vw (Z := Z) (S := fun _ => 0) (k := 0) _ (rep_at e 0 fun _ => rfl))
theorem de_int {i j} : DE X T W (.Constant (.int i) j pos) (cM (.int i)) := PE.imp pe_int fun _ _ _ => tC_of rfl
theorem de_bl {i j} : DE X T W (.Constant (.bool i) j pos) (cM (.bl i)) := PE.imp pe_bl fun _ _ _ => tC_of rfl
theorem de_non {j} : DE X T W (.Constant .none j pos) (cM .non) := PE.imp pe_non fun _ _ _ => tC_of rfl
theorem de_str {i j} : DE X T W (.Constant (.str i) j pos) (cM (.str i)) := PE.imp pe_str fun _ _ _ => tC_of rfl
theorem ds_int {i j} : DS X T (.Constant (.int i) j pos) (cS (.int i)) := PE.imp pe_int fun _ _ _ => tCS_of rfl
theorem ds_bl {i j} : DS X T (.Constant (.bool i) j pos) (cS (.bl i)) := PE.imp pe_bl fun _ _ _ => tCS_of rfl
theorem ds_non {j} : DS X T (.Constant .none j pos) (cS .non) := PE.imp pe_non fun _ _ _ => tCS_of rfl
theorem ds_str {i j} : DS X T (.Constant (.str i) j pos) (cS (.str i)) := PE.imp pe_str fun _ _ _ => tCS_of rfl
theorem de_var (i : Nat) (hN : X.N[i]? = some x := by rfl) (hv : Vis X.env.scope x := by first | exact Or.inl rfl | exact Or.inr (Or.inl rfl) | exact Or.inr (Or.inr rfl)) (hd : (x == ("__debug__" : Str)) = false := by decide)
    (hcd : (x == ("__classdict__" : Str)) = false := by decide) : DE X T W (.Name x pos) (rdM i) := PE.imp (pe_var hN hv hd hcd) fun _ _ _ => tD_rd
theorem ds_var (i : Nat) (hN : X.N[i]? = some x := by rfl) (hv : Vis X.env.scope x := by first | exact Or.inl rfl | exact Or.inr (Or.inl rfl) | exact Or.inr (Or.inr rfl)) (hd : (x == ("__debug__" : Str)) = false := by decide)
    (hcd : (x == ("__classdict__" : Str)) = false := by decide) : DS X T (.Name x pos) (vS i) := PE.imp (pe_var hN hv hd hcd) fun _ _ _ => tS_v
/-- a constant of the module, by what it is worth -/
structure Gv (K : PySem.W.Frag) (mg : Str → Option Value) (x : Str) (d : D) : Prop where
  ex : ∃ v u, mg x = some u ∧ RelV v u ∧ ∀ Z H, Rep K Z H d 0 v (fun _ => 0)
theorem ds_glob {d : D} (G : Gv X.K X.mg x d) (hg : Gl X x) (hd : (x == ("__debug__" : Str)) = false := by decide) : DS X T (.Name x pos) (cS d) := by
  obtain ⟨v, u, hm, r, h⟩ := G.ex
  refine PE.imp (pe_glob hg hm r hd) fun σ H Q q => ?_
  obtain ⟨Z, S, ρ, d', sit, e1, q⟩ := q
  cases e1
  exact q v (Rep.vw _ (h Z H))
theorem de_glob {d : D} (G : Gv X.K X.mg x d) (hg : Gl X x) (hd : (x == ("__debug__" : Str)) = false := by decide) : DE X T W (.Name x pos) (cM d) := by
  obtain ⟨v, u, hm, r, h⟩ := G.ex
  refine PE.imp (pe_glob hg hm r hd) fun σ H Q q => ?_
  obtain ⟨Z, S, ρ, sit, q⟩ := q
  exact q v H Z (fun _ => 0) S sit (h Z H) sit.good0 (Tr.refl fun b => by simp)
theorem de_still (h : DS X T a hS) : DE X T W a (stM hS) := PE.imp h fun _ _ _ => tD_still
theorem da_nil : DA X T W [] nilM := PA.imp pa_nil fun _ _ _ => tL_nil
theorem da_cons {es : List Expr} {fs : M (List VD)} (ha : DE X T W a f) (hr : DA X T W es fs) (hs : starEach (a :: es) X.env = (false, eval a X.env) :: starEach es X.env := by rfl) : DA X T W (a :: es) (consM f fs) := PA.imp (pa_cons ha hr hs) fun _ _ _ => tL_cons
theorem dsa_nil : DSA X T [] nilS := PA.imp pa_nil fun _ _ _ => tSL_nil
theorem dsa_cons {es : List Expr} {fs : En → Option (List D)} (ha : DS X T a hS) (hr : DSA X T es fs) (hs : starEach (a :: es) X.env = (false, eval a X.env) :: starEach es X.env := by rfl) : DSA X T (a :: es) (consS hS fs) := PA.imp (pa_cons ha hr hs) fun _ _ _ => tSL_cons
/-! tests -/
theorem dt_val (h : DE X T W a f) (he : ∀ whole, isTrue a X.env whole = (do let v ← whole; standAt a.pos; holding [v] (truthy v)) := by intro _; rfl) : DT X T W a (valT f) := PT.imp (pt_val h he) fun _ _ _ => tT_val
theorem dt_valS (h : DS X T a hS) (he : ∀ whole, isTrue a X.env whole = (do let v ← whole; standAt a.pos; holding [v] (truthy v)) := by intro _; rfl) : DT X T W a (stT hS) := PT.imp (pt_val h he) fun _ _ _ => tT_still
theorem dt_not {f : M Bool} (h : DT X T W a f) : DT X T W (.UnaryOp .Not a pos) (notT f) := PT.imp (pt_not h) fun _ _ _ => tT_not
abbrev DW (X : Cx) (T : List (Addr × Str)) (W : Wsh) (e : Expr) (f : M Bool) : Prop := PW X e (tT X.K T X.mg W f)
theorem dw_and1 {f : M Bool} (h : DT X T W a f) : DW X T W (.BoolOp .And [a] pos) f := pw_and1 h
theorem dw_or1 {f : M Bool} (h : DT X T W a f) : DW X T W (.BoolOp .Or [a] pos) f := pw_or1 h
theorem dw_and {f g : M Bool} {rest : List Expr} (h : DT X T W a f) (h2 : DW X T W (.BoolOp .And (b :: rest) pos) g) : DW X T W (.BoolOp .And (a :: b :: rest) pos) (andT f g) := PW.imp (pw_and h h2) fun _ _ _ => tT_and
theorem dw_or {f g : M Bool} {rest : List Expr} (h : DT X T W a f) (h2 : DW X T W (.BoolOp .Or (b :: rest) pos) g) : DW X T W (.BoolOp .Or (a :: b :: rest) pos) (orT f g) := PW.imp (pw_or h h2) fun _ _ _ => tT_or
theorem dt_w {f : M Bool} (h : DW X T W a f) : DT X T W a f := h.pt
/-! values by tests -/
theorem de_if {t : M Bool} (hc : DT X T W c t) (ha : DE X T W a f) (hb : DE X T W b g) : DE X T W (.IfExp c a b pos) (ifM t f g) := PE.imp (pe_ifExp hc ha hb) fun _ _ _ => tD_if
theorem de_one {op} (h : DE X T W a f) : DE X T W (.BoolOp op [a] pos) f := pe_one h
theorem de_and {rest : List Expr} (ha : DE X T W a f) (hb : DE X T W (.BoolOp .And (b :: rest) pos) g) : DE X T W (.BoolOp .And (a :: b :: rest) pos) (andM f g) := PE.imp (pe_and ha hb) fun _ _ _ => tD_and
theorem de_or {rest : List Expr} (ha : DE X T W a f) (hb : DE X T W (.BoolOp .Or (b :: rest) pos) g) : DE X T W (.BoolOp .Or (a :: b :: rest) pos) (orM f g) := PE.imp (pe_or ha hb) fun _ _ _ => tD_or
/-! operators, comparisons -/
structure BinD (X : Cx) (T : List (Addr × Str)) (fn : Value → Value → Sem Value) (o : List VD → Option VD) : Prop where
  ex : ∃ r, OpR X fn r ∧ CallD X.K T (r2 r) o
structure BinV (X : Cx) (fn : Value → Value → Sem Value) (o : List D → Option D) : Prop where
  ex : ∃ r, OpR X fn r ∧ CallV X.K (r2 r) o
theorem BinV.d {fn : Value → Value → Sem Value} {o : List D → Option D} (h : BinV X fn o) : BinD X T fn (liftO o) := let ⟨r, h1, h2⟩ := h.ex; ⟨r, h1, h2.d⟩
theorem de_bin {op : Operator} {o : List VD → Option VD} (ho : BinD X T (binaryOp op) o) (ha : DE X T W a f) (hb : DE X T W b g) : DE X T W (.BinOp a op b pos) (opM o (consM f (consM g nilM))) := by
  obtain ⟨r, h1, h2⟩ := ho.ex
  exact PE.imp (pe_op h1 ha hb) fun _ _ _ => tD_two h2
theorem ds_bin {op : Operator} {o : List D → Option D} (ho : BinV X (binaryOp op) o) (ha : DS X T a hS) (hb : DS X T b gS) : DS X T (.BinOp a op b pos) (opS o (consS hS (consS gS nilS))) := by
  obtain ⟨r, h1, h2⟩ := ho.ex
  exact PE.imp (pe_op h1 ha hb) fun _ _ _ => tS_two h2.s
theorem de_cmp {op : CmpOp} {o : List D → Option D} (ho : BinV X (compareOp op) o) (ha : DE X T W a f) (hb : DE X T W b g) (hm : behindInMarks op b = false := by first | exact nomark _ | rfl) : DE X T W (.Compare a [op] [b] pos) (opM (liftO o) (consM f (consM g nilM))) := by
  obtain ⟨r, h1, h2⟩ := ho.ex
  exact PE.imp (pe_cmpR h1 ha hb hm) fun _ _ _ => tD_two h2.d
theorem de_cmpB {op : CmpOp} {o : List D → Option D} (ho : BinV X (compareOp op) o) (ha : DE X T W a f) (hb : DS X T b gS) (hm : behindInMarks op b = false := by first | exact nomark _ | rfl) : DE X T W (.Compare a [op] [b] pos) (bor (consM f nilM) gS o) := by
  obtain ⟨r, h1, h2⟩ := ho.ex
  exact PE.imp (pe_cmpR h1 ha hb hm) fun _ _ _ => tD_bor h2
theorem ds_cmp {op : CmpOp} {o : List D → Option D} (ho : BinV X (compareOp op) o) (ha : DS X T a hS) (hb : DS X T b gS) (hm : behindInMarks op b = false := by first | exact nomark _ | rfl) : DS X T (.Compare a [op] [b] pos) (opS o (consS hS (consS gS nilS))) := by
  obtain ⟨r, h1, h2⟩ := ho.ex
  exact PE.imp (pe_cmpR h1 ha hb hm) fun _ _ _ => tS_two h2.s
theorem dt_cmp {op : CmpOp} {o : List D → Option D} (ho : BinV X (compareOp op) o) (ha : DE X T W a f) (hb : DE X T W b g) (hm : behindInMarks op b = false := by first | exact nomark _ | rfl) : DT X T W (.Compare a [op] [b] pos) (valT (opM (liftO o) (consM f (consM g nilM)))) := by
  obtain ⟨r, h1, h2⟩ := ho.ex
  exact PT.imp (pt_cmpR h1 ha hb hm) fun _ _ _ q => tD_two h2.d (tT_val q)
theorem dt_cmpB {op : CmpOp} {o : List D → Option D} (ho : BinV X (compareOp op) o) (ha : DE X T W a f) (hb : DS X T b gS) (hm : behindInMarks op b = false := by first | exact nomark _ | rfl) : DT X T W (.Compare a [op] [b] pos) (valT (bor (consM f nilM) gS o)) := by
  obtain ⟨r, h1, h2⟩ := ho.ex
  exact PT.imp (pt_cmpR h1 ha hb hm) fun _ _ _ q => tD_bor h2 (tT_val q)
theorem dt_cmpS {op : CmpOp} {o : List D → Option D} (ho : BinV X (compareOp op) o) (ha : DS X T a hS) (hb : DS X T b gS) (hm : behindInMarks op b = false := by first | exact nomark _ | rfl) : DT X T W (.Compare a [op] [b] pos) (stT (opS o (consS hS (consS gS nilS)))) := by
  obtain ⟨r, h1, h2⟩ := ho.ex
  exact PT.imp (pt_cmpR h1 ha hb hm) fun _ _ _ q => tS_two h2.s (tT_still q)
/-- a chain of two, still -/
def chS (o o' : List D → Option D) (f g h : En → Option D) : En → Option D := fun ρ => match f ρ, g ρ with
  | some x, some y => (match o [x, y] with
    | some (.bl true) => (match h ρ with | some z => o' [y, z] | none => none)
    | some (.bl false) => some (.bl false)
    | _ => none)
  | _, _ => none
theorem tS_ch {r r' : R2} {o o' : List D → Option D} (hr : CallV X.K (r2 r) o) (hr' : CallV X.K (r2 r') o') {f g h : En → Option D} {σ : L2.St} {H : Hp} {Q : VK} (q : tS X.K T (chS o o' f g h) σ H Q) : tChain r r' (tS X.K T f) (tS X.K T g) (tS X.K T h) σ H Q := by
  obtain ⟨Z, S, ρ, d, sit, e, q⟩ := q
  unfold chS at e
  cases e1 : f ρ with
  | none => simp only [e1] at e; cases e
  | some x =>
    cases e2 : g ρ with
    | none => simp only [e1, e2] at e; cases e
    | some y =>
      simp only [e1, e2] at e
      refine ⟨Z, S, ρ, x, sit, e1, fun v hv => ⟨Z, S, ρ, y, sit, e2, fun w hw => ?_⟩⟩
      have two : ∀ {v w : V} {x y : D}, Vw X.K H x v → Vw X.K H y w → Vws X.K H [x, y] [v, w] := fun {v w x y} h1 h2 => by
        simp only [Vws]; exact ⟨v, [w], rfl, h1, w, [], rfl, h2, rfl⟩
      cases e3 : o [x, y] with
      | none => simp only [e3] at e; cases e
      | some z =>
        cases z with
        | bl k =>
          obtain ⟨u, hu, hq⟩ := hr H [x, y] [v, w] (.bl k) (two hv hw) e3
          cases hu
          refine r2_two (hq _ ⟨k, rfl, ?_⟩)
          cases k with
          | true =>
            refine iteT ?_
            simp only [e3] at e
            cases e4 : h ρ with
            | none => simp only [e4] at e; cases e
            | some z =>
              simp only [e4] at e
              refine ⟨Z, S, ρ, z, sit, e4, fun u2 hu2 => ?_⟩
              obtain ⟨t, ht, hq'⟩ := hr' H [y, z] [w, u2] d (two hw hu2) e
              exact r2_two (hq' Q (q t (Rep.vw (Z := Z) (S := fun _ => 0) (k := 0) _ (rep_at ht 0 fun _ => rfl))))
          | false =>
            refine iteF ?_
            simp only [e3] at e
            cases e
            exact q _ (by simp only [Vw])
        | _ => simp only [e3] at e; cases e
theorem ds_ch {op op' : CmpOp} {o o' : List D → Option D} (ho : BinV X (compareOp op) o) (ho' : BinV X (compareOp op') o') (ha : DS X T a hS) (hb : DS X T b gS) (hc : DS X T c cS') (hm : lastMarks [op, op'] [b, c] = false := by rfl) : DS X T (.Compare a [op, op'] [b, c] pos) (chS o o' hS gS cS') := by
  obtain ⟨r, h1, h2⟩ := ho.ex
  obtain ⟨r', h1', h2'⟩ := ho'.ex
  exact PE.imp (pe_chain h1 h1' ha hb hc hm) fun _ _ _ => tS_ch h2 h2'
theorem dt_ch {op op' : CmpOp} {o o' : List D → Option D} (ho : BinV X (compareOp op) o) (ho' : BinV X (compareOp op') o') (ha : DS X T a hS) (hb : DS X T b gS) (hc : DS X T c cS') (hm : lastMarks [op, op'] [b, c] = false := by rfl) : DT X T W (.Compare a [op, op'] [b, c] pos) (stT (chS o o' hS gS cS')) := by
  obtain ⟨r, h1, h2⟩ := ho.ex
  obtain ⟨r', h1', h2'⟩ := ho'.ex
  exact PT.imp (pt_chain h1 h1' ha hb hc hm) fun _ _ _ q => tS_ch h2 h2' (tT_still q)
/-! calls of built-ins -/
structure CalD (X : Cx) (T : List (Addr × Str)) (v : Value) (o : List VD → Option VD) : Prop where
  ex : ∃ r, CallR X v r ∧ CallD X.K T r o
structure CalS (X : Cx) (v : Value) (o : List D → Option D) : Prop where
  ex : ∃ r, CallR X v r ∧ CallV X.K r o
theorem CalS.d {v : Value} {o : List D → Option D} (h : CalS X v o) : CalD X T v (liftO o) := let ⟨r, h1, h2⟩ := h.ex; ⟨r, h1, h2.d⟩
theorem de_callB {id : String} {o : List VD → Option VD} {p : Pos} {es : List Expr} {fs : M (List VD)} (hc : CalD X T (.builtin id) o) (hg : Gl X x) (hm : X.mg x = none) (hv : bootBuiltins x = some (.builtin id)) (ha : DA X T W (a :: es) fs) (hn : x ≠ "__name__" := by decide) (hdb : (x == ("__debug__" : Str)) = false := by decide)
    (he : starEach (a :: es) X.env = (false, eval a X.env) :: starEach es X.env := by rfl) (hpl : (backTo pos (starEach es X.env)).any (·.1) = false := by rfl) : DE X T W (.Call (.Name x p) (a :: es) [] pos) (opM o fs) := by
  obtain ⟨r, h1, h2⟩ := hc.ex
  exact PE.imp (pe_callB h1 hg hm hv ha hn hdb he hpl) fun _ _ _ => tD_op h2
theorem ds_callB {id : String} {o : List D → Option D} {p : Pos} {es : List Expr} {fs : En → Option (List D)} (hc : CalS X (.builtin id) o) (hg : Gl X x) (hm : X.mg x = none) (hv : bootBuiltins x = some (.builtin id)) (ha : DSA X T (a :: es) fs) (hn : x ≠ "__name__" := by decide) (hdb : (x == ("__debug__" : Str)) = false := by decide)
    (he : starEach (a :: es) X.env = (false, eval a X.env) :: starEach es X.env := by rfl) (hpl : (backTo pos (starEach es X.env)).any (·.1) = false := by rfl) : DS X T (.Call (.Name x p) (a :: es) [] pos) (opS o fs) := by
  obtain ⟨r, h1, h2⟩ := hc.ex
  exact PE.imp (pe_callB h1 hg hm hv ha hn hdb he hpl) fun _ _ _ => tS_op h2
theorem de_callT {n : String} {o : List VD → Option VD} {p : Pos} {es : List Expr} {fs : M (List VD)} (hc : CalD X T (.type n) o) (hg : Gl X x) (hm : X.mg x = none) (hv : bootBuiltins x = some (.type n)) (ha : DA X T W (a :: es) fs) (hn : x ≠ "__name__" := by decide) (hdb : (x == ("__debug__" : Str)) = false := by decide)
    (he : starEach (a :: es) X.env = (false, eval a X.env) :: starEach es X.env := by rfl) (hpl : (backTo pos (starEach es X.env)).any (·.1) = false := by rfl) : DE X T W (.Call (.Name x p) (a :: es) [] pos) (opM o fs) := by
  obtain ⟨r, h1, h2⟩ := hc.ex
  exact PE.imp (pe_callTy h1 hg hm hv ha hn hdb he hpl) fun _ _ _ => tD_op h2
theorem ds_callT {n : String} {o : List D → Option D} {p : Pos} {es : List Expr} {fs : En → Option (List D)} (hc : CalS X (.type n) o) (hg : Gl X x) (hm : X.mg x = none) (hv : bootBuiltins x = some (.type n)) (ha : DSA X T (a :: es) fs) (hn : x ≠ "__name__" := by decide) (hdb : (x == ("__debug__" : Str)) = false := by decide)
    (he : starEach (a :: es) X.env = (false, eval a X.env) :: starEach es X.env := by rfl) (hpl : (backTo pos (starEach es X.env)).any (·.1) = false := by rfl) : DS X T (.Call (.Name x p) (a :: es) [] pos) (opS o fs) := by
  obtain ⟨r, h1, h2⟩ := hc.ex
  exact PE.imp (pe_callTy h1 hg hm hv ha hn hdb he hpl) fun _ _ _ => tS_op h2
end
end Em
set_option Elab.async false
set_option linter.all false
set_option maxRecDepth 100000
set_option maxHeartbeats 4000000
/-! Em 5: operators and built-ins over plain data. -/
namespace Em
open PySem L2

/-! ### lists of atoms -/
def intsD : List D → Option (List Int)
  | [] => some []
  | .int i :: r => (intsD r).map (i :: ·)
  | _ => none
def boolsD : List D → Option (List Bool)
  | [] => some []
  | .bl i :: r => (boolsD r).map (i :: ·)
  | _ => none
def atoms : List D → Option (List V)
  | [] => some []
  | d :: r => (toV d).bind fun v => (atoms r).map (v :: ·)
theorem ints_map (ns : List Int) : intsD (ns.map D.int) = some ns := by
  induction ns with
  | nil => rfl
  | cons n r ih => simp only [List.map_cons, intsD, ih, Option.map_some]
theorem bools_map (ns : List Bool) : boolsD (ns.map D.bl) = some ns := by
  induction ns with
  | nil => rfl
  | cons n r ih => simp only [List.map_cons, boolsD, ih, Option.map_some]
theorem atoms_ints (ns : List Int) : atoms (ns.map D.int) = some (ns.map V.int) := by
  induction ns with
  | nil => rfl
  | cons n r ih => simp only [List.map_cons, atoms, ih, toV, Option.map_some, Option.bind_some]
section
variable {K : PySem.W.Frag} {Z Z' : Addr → Prop} {H H' : Hp} {S S' R : Ft}
theorem vws_ints : ∀ {ds : List D} {ns : List Int} {vs : List V}, intsD ds = some ns → Vws K H ds vs → vs = ns.map V.int
  | [], _, _, e, h => by cases e; simp only [Vws] at h; exact h
  | d :: r, ns, vs, e, h => by
    cases d with
    | int i =>
      simp only [intsD] at e
      cases e1 : intsD r with
      | none => rw [e1] at e; cases e
      | some ms =>
        rw [e1] at e; cases e
        simp only [Vws, Vw] at h
        obtain ⟨v, w, rfl, rfl, h⟩ := h
        rw [vws_ints e1 h]; rfl
    | _ => cases e
theorem vws_bools : ∀ {ds : List D} {ns : List Bool} {vs : List V}, boolsD ds = some ns → Vws K H ds vs → vs = ns.map V.bl
  | [], _, _, e, h => by cases e; simp only [Vws] at h; exact h
  | d :: r, ns, vs, e, h => by
    cases d with
    | bl i =>
      simp only [boolsD] at e
      cases e1 : boolsD r with
      | none => rw [e1] at e; cases e
      | some ms =>
        rw [e1] at e; cases e
        simp only [Vws, Vw] at h
        obtain ⟨v, w, rfl, rfl, h⟩ := h
        rw [vws_bools e1 h]; rfl
    | _ => cases e
theorem vws_atoms : ∀ {ds : List D} {ns vs : List V}, atoms ds = some ns → Vws K H ds vs → vs = ns
  | [], _, _, e, h => by cases e; simp only [Vws] at h; exact h
  | d :: r, ns, vs, e, h => by
    simp only [atoms] at e
    cases e1 : toV d with
    | none => rw [e1] at e; cases e
    | some v =>
      cases e2 : atoms r with
      | none => rw [e1, e2] at e; cases e
      | some ms =>
        rw [e1, e2] at e; cases e
        simp only [Vws] at h
        obtain ⟨w, t, rfl, hw, h⟩ := h
        rw [vws_atoms e2 h, at_vw e1 hw]
theorem toV_flat {d : D} {v : V} (e : toV d = some v) : flatV v = true := by
  cases d <;> simp only [toV, Option.some.injEq, reduceCtorEq] at e <;> subst e <;> rfl
theorem atoms_flat : ∀ {ds : List D} {vs : List V}, atoms ds = some vs → vs.all flatV = true
  | [], _, e => by cases e; rfl
  | d :: r, vs, e => by
    simp only [atoms] at e
    cases e1 : toV d with
    | none => rw [e1] at e; cases e
    | some v =>
      cases e2 : atoms r with
      | none => rw [e1, e2] at e; cases e
      | some ms =>
        rw [e1, e2] at e; cases e
        simp only [List.all_cons, toV_flat e1, atoms_flat e2, Bool.and_self]
theorem Vws.get : ∀ {ds : List D} {vs : List V} {j : Nat} {d : D}, Vws K H ds vs → ds[j]? = some d → ∃ v, vs[j]? = some v ∧ Vw K H d v
  | [], _, _, _, _, e => by simp at e
  | d0 :: r, _, 0, d, h, e => by
    simp only [Vws] at h
    obtain ⟨v, w, rfl, h1, h2⟩ := h
    simp at e; subst e
    exact ⟨v, rfl, h1⟩
  | d0 :: r, _, j + 1, d, h, e => by
    simp only [Vws] at h
    obtain ⟨v, w, rfl, h1, h2⟩ := h
    obtain ⟨x, e1, e2⟩ := Vws.get (j := j) h2 (by simpa using e)
    exact ⟨x, by simpa using e1, e2⟩
theorem Reps.get0 : ∀ {ds : List D} {vs : List V} {S : Ft} {j : Nat} {d : D}, Reps K Z H ds 0 vs S → ds[j]? = some d → ∃ v, vs[j]? = some v ∧ Rep K Z H d 0 v (fun _ => 0)
  | [], _, _, _, _, _, e => by simp at e
  | d0 :: r, _, _, 0, d, h, e => by
    simp only [Reps] at h
    obtain ⟨v, w, S1, S2, rfl, h1, h2, _⟩ := h
    simp at e; subst e
    exact ⟨v, rfl, rep_ft h1 (Rep.zero _ h1)⟩
  | d0 :: r, _, _, j + 1, d, h, e => by
    simp only [Reps] at h
    obtain ⟨v, w, S1, S2, rfl, h1, h2, _⟩ := h
    obtain ⟨x, e1, e2⟩ := Reps.get0 (j := j) h2 (by simpa using e)
    exact ⟨x, by simpa using e1, e2⟩
theorem reps_ft {ds : List D} {k : Nat} {vs : List V} {S S' : Ft} (h : Reps K Z H ds k vs S) (e : ∀ b, S b = S' b) : Reps K Z H ds k vs S' := by
  have : S = S' := funext e
  rw [← this]; exact h
theorem Reps.append : ∀ {ds es : List D} {k : Nat} {vs ws : List V} {S S' : Ft}, Reps K Z H ds k vs S → Reps K Z H es k ws S' → Reps K Z H (ds ++ es) k (vs ++ ws) (fun b => S b + S' b)
  | [], es, k, vs, ws, S, S', h, h' => by
    simp only [Reps] at h
    obtain ⟨rfl, h⟩ := h
    exact reps_ft h' fun b => by rw [h b]; omega
  | d :: ds, es, k, vs, ws, S, S', h, h' => by
    simp only [Reps] at h
    obtain ⟨v, r, S1, S2, rfl, h1, h2, e⟩ := h
    simp only [List.cons_append, Reps]
    exact ⟨v, r ++ ws, S1, fun b => S2 b + S' b, rfl, h1, Reps.append h2 h', fun b => by have := e b; show S b + S' b = S1 b + (S2 b + S' b); omega⟩
theorem Reps.take : ∀ {ds : List D} {vs : List V} (n : Nat), Reps K Z H ds 0 vs (fun _ => 0) → Reps K Z H (ds.take n) 0 (vs.take n) (fun _ => 0)
  | ds, vs, 0, h => by simp only [List.take_zero]; unfold Reps; exact ⟨rfl, fun _ => rfl⟩
  | [], vs, n + 1, h => by
    simp only [Reps] at h
    obtain ⟨rfl, h⟩ := h
    simp only [List.take_nil]; unfold Reps; exact ⟨rfl, fun _ => rfl⟩
  | d :: ds, vs, n + 1, h => by
    simp only [Reps] at h
    obtain ⟨v, r, S1, S2, rfl, h1, h2, e⟩ := h
    have := Reps.take n (reps_ft h2 (Reps.zero _ h2))
    simp only [List.take_succ_cons, Reps]
    exact ⟨v, r.take n, fun _ => 0, fun _ => 0, rfl, rep_ft h1 (Rep.zero _ h1), this, fun _ => rfl⟩
theorem Reps.drop : ∀ {ds : List D} {vs : List V} (n : Nat), Reps K Z H ds 0 vs (fun _ => 0) → Reps K Z H (ds.drop n) 0 (vs.drop n) (fun _ => 0)
  | ds, vs, 0, h => h
  | [], vs, n + 1, h => by
    simp only [Reps] at h
    obtain ⟨rfl, h⟩ := h
    simp only [List.drop_nil]; unfold Reps; exact ⟨rfl, fun _ => rfl⟩
  | d :: ds, vs, n + 1, h => by
    simp only [Reps] at h
    obtain ⟨v, r, S1, S2, rfl, h1, h2, e⟩ := h
    exact Reps.drop n (reps_ft h2 (Reps.zero _ h2))
end

/-! ### functions of data -/
def addO : List D → Option D | [.int i, .int j] => some (.int (i + j)) | _ => none
def subO : List D → Option D | [.int i, .int j] => some (.int (i - j)) | _ => none
def mulO : List D → Option D | [.int i, .int j] => if (-(2 ^ 64) < i ∧ i < 2 ^ 64) ∨ (-(2 ^ 64) < j ∧ j < 2 ^ 64) then some (.int (i * j)) else none | _ => none
def fdivO : List D → Option D | [.int i, .int j] => if 0 < j ∧ j < 1073741824 then some (.int (i / j)) else none | _ => none
def modO : List D → Option D | [.int i, .int j] => if 0 < j then some (.int (i % j)) else none | _ => none
def powO : List D → Option D | [.int i, .int j] => if 0 ≤ j ∧ j ≤ 1000000 ∧ i.natAbs < 2 ^ 64 then some (.int (i ^ j.toNat)) else none | _ => none
def ltO : List D → Option D
  | [.int i, .int j] => some (.bl (decide (i < j)))
  | [.tup xs, .tup ys] => (match intsD xs, intsD ys with | some ns, some ms => some (.bl (HT.lexLt ns ms)) | _, _ => none)
  | _ => none
def leO : List D → Option D | [.int i, .int j] => some (.bl (decide (i ≤ j))) | _ => none
def gtO : List D → Option D | [.int i, .int j] => some (.bl (decide (j < i))) | _ => none
def geO : List D → Option D | [.int i, .int j] => some (.bl (decide (j ≤ i))) | _ => none
mutual
def toP : D → PyData
  | .non => .none | .bl b => .bool b | .int i => .int i | .str x => .str x
  | .tup xs => .tuple (toPs xs) | .lst xs => .list (toPs xs)
  | .dct _ _ => .dict [] | .scr _ => .dict [] | .adr _ => .dict [] | .ntp _ => .dict []
def toPs : List D → List PyData
  | [] => []
  | d :: r => toP d :: toPs r
end
def eqO : List D → Option D | [d, e] => if SeqAt.shaped (toP d) = true ∧ SeqAt.shaped (toP e) = true then some (.bl (PyData.eqv (toP d) (toP e))) else none | _ => none
def neO : List D → Option D | [d, e] => if SeqAt.shaped (toP d) = true ∧ SeqAt.shaped (toP e) = true then some (.bl (!PyData.eqv (toP d) (toP e))) else none | _ => none
def isNon : D → Bool | .non => true | _ => false
def isO : List D → Option D
  | [d, .non] => some (.bl (isNon d))
  | [.bl a, .bl b] => some (.bl (decide (a = b)))
  | _ => none
def notO : List D → Option D
  | [d, .non] => some (.bl (!isNon d))
  | [.bl a, .bl b] => some (.bl (!decide (a = b)))
  | _ => none
def inA (d : D) (ds : List D) : Option Bool := (toV d).bind fun v => (atoms ds).map fun vs => inV v vs
def inO : List D → Option D
  | [d, .lst ds] => (inA d ds).map .bl
  | [d, .tup ds] => (inA d ds).map .bl
  | _ => none
def ninO : List D → Option D
  | [d, .lst ds] => (inA d ds).map fun b => .bl (!b)
  | [d, .tup ds] => (inA d ds).map fun b => .bl (!b)
  | _ => none
def lenO : List D → Option D
  | [.lst xs] => some (.int xs.length)
  | [.tup xs] => some (.int xs.length)
  | [.scr xs] => some (.int xs.length)
  | _ => none
def absO : List D → Option D | [.int i] => some (.int (if i < 0 then -i else i)) | _ => none
def intO : List D → Option D | [.int i] => some (.int i) | [.bl b] => some (.int (if b then 1 else 0)) | _ => none
def ixS : List D → Option D
  | [.lst xs, .int i] => atI xs i
  | [.tup xs, .int i] => atI xs i
  | _ => none
def ixO : List VD → Option VD := fun ds => (ixS (ds.map (·.1))).map fun d => (d, 0)
def minO : List D → Option D
  | [.int i, .int j] => some (.int (if j < i then j else i))
  | [.lst xs] => (match intsD xs with | some (n :: ns) => some (.int (ns.foldl min n)) | _ => none)
  | _ => none
def maxO : List D → Option D
  | [.int i, .int j] => some (.int (if j > i then j else i))
  | [.lst xs] => (match intsD xs with | some (n :: ns) => some (.int (ns.foldl max n)) | _ => none)
  | _ => none
def sumO : List D → Option D | [.lst xs] => (intsD xs).map fun ns => .int ns.sum | _ => none
def allO : List D → Option D | [.lst xs] => (boolsD xs).map fun bs => .bl (bs.all id) | _ => none
def anyO : List D → Option D | [.lst xs] => (boolsD xs).map fun bs => .bl (bs.any id) | _ => none
def tupO : List VD → Option VD := fun ds => if ds.length ≤ 1000 then some (.tup (ds.map (·.1)), 0) else none
def lstO : List VD → Option VD := fun ds => if ds.length ≤ 1000 then some (.lst (ds.map (·.1)), if ds.isEmpty then 2 else 1) else none
def tuplO : List VD → Option VD | [(.lst xs, _)] => some (.tup xs, 0) | [(.tup xs, _)] => some (.tup xs, 0) | _ => none
def listO : List VD → Option VD | [(.lst xs, _)] => some (.lst xs, 1) | [(.tup xs, _)] => some (.lst xs, 1) | _ => none
def catO : List VD → Option VD
  | [(.int i, _), (.int j, _)] => some (.int (i + j), 0)
  | [(.lst xs, _), (.lst ys, _)] => if xs.length + ys.length ≤ 1000000 then some (.lst (xs ++ ys), 1) else none
  | [(.tup xs, _), (.tup ys, _)] => if xs.length + ys.length ≤ 1000000 then some (.tup (xs ++ ys), 0) else none
  | _ => none
def repO : List VD → Option VD
  | [(.int i, _), (.int j, _)] => (mulO [.int i, .int j]).map fun d => (d, 0)
  | [(.lst xs, _), (.int k, _)] => if -1000 ≤ k ∧ k ≤ 1000 ∧ xs.length ≤ 1000 then some (.lst (List.replicate k.toNat xs).flatten, 1) else none
  | [(.tup xs, _), (.int k, _)] => if 2 ≤ k ∧ k ≤ 1000 ∧ xs.length ≤ 1000 ∧ xs ≠ [] then some (.tup (List.replicate k.toNat xs).flatten, 0) else none
  | _ => none
def tyN : D → String
  | .non => "NoneType" | .bl _ => "bool" | .int _ => "int" | .str _ => "str" | .tup _ => "tuple" | .lst _ => "list" | .dct _ _ => "dict" | .scr _ => "list" | .adr _ => "" | .ntp _ => "tuple"
def isiO (n : String) : List D → Option D | [.adr _] => none | [d] => (kitB (tyN d) n).map .bl | _ => none

/-! ### their rules -/
section
variable {K : PySem.W.Frag} {T : List (Addr × Str)} {Z Z' : Addr → Prop} {H H' : Hp} {S S' R : Ft}
theorem vws2 {d e : D} {vs : List V} (h : Vws K H [d, e] vs) : ∃ v w, vs = [v, w] ∧ Vw K H d v ∧ Vw K H e w := by
  simp only [Vws] at h
  obtain ⟨v, r, rfl, h1, w, r', rfl, h2, rfl⟩ := h
  exact ⟨v, w, rfl, h1, h2⟩
theorem vws1 {d : D} {vs : List V} (h : Vws K H [d] vs) : ∃ v, vs = [v] ∧ Vw K H d v := by
  simp only [Vws] at h
  obtain ⟨v, r, rfl, h1, rfl⟩ := h
  exact ⟨v, rfl, h1⟩
/-- two intsD -/
theorem callV_ii {r : R2} {o : List D → Option D} (ho : ∀ ds d, o ds = some d → ∃ i j, ds = [.int i, .int j]) (hr : ∀ (i j : Int) (d : D) (H : Hp), o [.int i, .int j] = some d → ∃ v, toV d = some v ∧ ∀ Q : VK, Q v H → r (.int i) (.int j) H Q) : CallV K (r2 r) o := by
  intro H ds vs d hv e
  obtain ⟨i, j, rfl⟩ := ho ds d e
  obtain ⟨v, w, rfl, h1, h2⟩ := vws2 hv
  simp only [Vw] at h1 h2
  subst h1 h2
  obtain ⟨x, hx, hq⟩ := hr i j d H e
  exact ⟨x, hx, fun Q q => ⟨_, _, rfl, hq Q q⟩⟩
theorem ii_of {o : List D → Option D} {g : Int → Int → Option D} (h : ∀ ds, o ds = match ds with | [.int i, .int j] => g i j | _ => none) : ∀ ds d, o ds = some d → ∃ i j, ds = [.int i, .int j] := by
  intro ds d e
  rw [h] at e
  split at e
  · exact ⟨_, _, rfl⟩
  · cases e
variable {X : Cx}
theorem bv_add : BinV X (binaryOp .Add) addO := ⟨_, op_add, callV_ii (ii_of fun ds => rfl) fun i j d H e => by
  cases e; exact ⟨_, rfl, fun Q q => ⟨i, j, rfl, rfl, q⟩⟩⟩
theorem bv_sub : BinV X (binaryOp .Sub) subO := ⟨_, op_sub, callV_ii (ii_of fun ds => rfl) fun i j d H e => by
  cases e; exact ⟨_, rfl, fun Q q => ⟨i, j, rfl, rfl, q⟩⟩⟩
theorem bv_mul : BinV X (binaryOp .Mult) mulO := ⟨_, op_mul, callV_ii (ii_of (g := fun i j => if (-(2 ^ 64) < i ∧ i < 2 ^ 64) ∨ (-(2 ^ 64) < j ∧ j < 2 ^ 64) then some (.int (i * j)) else none) fun ds => rfl) fun i j d H e => by
  simp only [mulO] at e
  split at e
  · rename_i c; cases e; exact ⟨_, rfl, fun Q q => ⟨i, j, rfl, rfl, c, q⟩⟩
  · cases e⟩
theorem bv_fdiv : BinV X (binaryOp .FloorDiv) fdivO := ⟨_, op_fdiv, callV_ii (ii_of (g := fun i j => if 0 < j ∧ j < 1073741824 then some (.int (i / j)) else none) fun ds => rfl) fun i j d H e => by
  simp only [fdivO] at e
  split at e
  · rename_i c; cases e; exact ⟨_, rfl, fun Q q => ⟨i, j, rfl, rfl, c, q⟩⟩
  · cases e⟩
theorem bv_mod : BinV X (binaryOp .Mod) modO := ⟨_, op_mod, callV_ii (ii_of (g := fun i j => if 0 < j then some (.int (i % j)) else none) fun ds => rfl) fun i j d H e => by
  simp only [modO] at e
  split at e
  · rename_i c; cases e; exact ⟨_, rfl, fun Q q => ⟨i, j, rfl, rfl, c, q⟩⟩
  · cases e⟩
theorem bv_pow : BinV X (binaryOp .Pow) powO := ⟨_, op_pow, callV_ii (ii_of (g := fun i j => if 0 ≤ j ∧ j ≤ 1000000 ∧ i.natAbs < 2 ^ 64 then some (.int (i ^ j.toNat)) else none) fun ds => rfl) fun i j d H e => by
  simp only [powO] at e
  split at e
  · rename_i c; cases e; exact ⟨_, rfl, fun Q q => ⟨i, j, rfl, rfl, c, q⟩⟩
  · cases e⟩
theorem vw_tup {xs : List D} {v : V} (h : Vw K H (.tup xs) v) : ∃ a vs, v = .ref a ∧ SqT K H a vs ∧ Vws K H xs vs := by simpa only [Vw] using h
theorem vw_lst {xs : List D} {v : V} (h : Vw K H (.lst xs) v) : ∃ a vs, v = .ref a ∧ SqL K H a vs ∧ Vws K H xs vs := by simpa only [Vw] using h
theorem vw_scr {xs : List Int} {v : V} (h : Vw K H (.scr xs) v) : ∃ a, v = .ref a ∧ ScL K H a (xs.map V.int) := by simpa only [Vw] using h
theorem bv_lt (hu : X.A.units < cLine) : BinV X (compareOp .Lt) ltO := ⟨_, op_lt.or (op_ltT hu), by
  intro H ds vs d hv e
  unfold ltO at e
  split at e
  · cases e
    obtain ⟨v, w, rfl, h1, h2⟩ := vws2 hv
    simp only [Vw] at h1 h2
    subst h1 h2
    exact ⟨_, rfl, fun Q q => ⟨_, _, rfl, .inl ⟨_, _, rfl, rfl, q⟩⟩⟩
  · split at e
    · cases e
      rename_i ns ms en em
      obtain ⟨v, w, rfl, h1, h2⟩ := vws2 hv
      obtain ⟨a, as, rfl, ha, ha'⟩ := vw_tup h1
      obtain ⟨b, bs, rfl, hb, hb'⟩ := vw_tup h2
      rw [vws_ints en ha'] at ha
      rw [vws_ints em hb'] at hb
      exact ⟨_, rfl, fun Q q => ⟨_, _, rfl, .inr ⟨_, _, _, _, rfl, rfl, ha, hb, q⟩⟩⟩
    · cases e
  · cases e⟩
theorem bv_le : BinV X (compareOp .LtE) leO := ⟨_, op_le, callV_ii (ii_of fun ds => rfl) fun i j d H e => by
  cases e; exact ⟨_, rfl, fun Q q => ⟨i, j, rfl, rfl, q⟩⟩⟩
theorem bv_gt : BinV X (compareOp .Gt) gtO := ⟨_, op_gt, callV_ii (ii_of fun ds => rfl) fun i j d H e => by
  cases e; exact ⟨_, rfl, fun Q q => ⟨i, j, rfl, rfl, q⟩⟩⟩
theorem bv_ge : BinV X (compareOp .GtE) geO := ⟨_, op_ge, callV_ii (ii_of fun ds => rfl) fun i j d H e => by
  cases e; exact ⟨_, rfl, fun Q q => ⟨i, j, rfl, rfl, q⟩⟩⟩
mutual
theorem Vw.dp : ∀ (d : D) {v : V}, Vw K H d v → (toP d).canLay0 = true → Dp K H v (toP d)
  | .non, v, h, _ => by simp only [Vw] at h; subst h; exact .non
  | .bl b, v, h, _ => by simp only [Vw] at h; subst h; exact .bl b
  | .int b, v, h, _ => by simp only [Vw] at h; subst h; exact .int b
  | .str b, v, h, _ => by simp only [Vw] at h; subst h; exact .str b
  | .tup xs, v, h, c => by
    obtain ⟨a, vs, rfl, hs, hv⟩ := vw_tup h
    exact .tup hs (Vws.dp xs hv c)
  | .lst xs, v, h, c => by
    obtain ⟨a, vs, rfl, hs, hv⟩ := vw_lst h
    exact .lst hs (Vws.dp xs hv c)
  | .dct _ _, v, h, c => by cases c
  | .scr _, v, h, c => by cases c
  | .adr _, v, h, c => by cases c
  | .ntp _, v, h, c => by cases c
theorem Vws.dp : ∀ (ds : List D) {vs : List V}, Vws K H ds vs → PyData.canLayAll0 (toPs ds) = true → DpAll K H vs (toPs ds)
  | [], vs, h, _ => by simp only [Vws] at h; subst h; exact .nil
  | d :: r, vs, h, c => by
    simp only [Vws] at h
    obtain ⟨v, w, rfl, h1, h2⟩ := h
    have c' : (toP d).canLay0 = true ∧ PyData.canLayAll0 (toPs r) = true := by simpa only [toPs, PyData.canLayAll0, Bool.and_eq_true] using c
    exact .cons (Vw.dp d h1 c'.1) (Vws.dp r h2 c'.2)
end
theorem bv_eq (hu : X.A.units + 64 < cLine) : BinV X (compareOp .Eq) eqO := ⟨_, op_eqD hu, by
  intro H ds vs d hv e
  unfold eqO at e
  split at e
  · split at e
    · rename_i c; cases e
      obtain ⟨v, w, rfl, h1, h2⟩ := vws2 hv
      exact ⟨_, rfl, fun Q q => ⟨_, _, rfl, _, _, Vw.dp _ h1 (SeqAt.canLay_of_shaped c.1), Vw.dp _ h2 (SeqAt.canLay_of_shaped c.2), c.1, c.2, q⟩⟩
    · cases e
  · cases e⟩
theorem bv_ne (hu : X.A.units + 64 < cLine) : BinV X (compareOp .NotEq) neO := ⟨_, op_neD hu, by
  intro H ds vs d hv e
  unfold neO at e
  split at e
  · split at e
    · rename_i c; cases e
      obtain ⟨v, w, rfl, h1, h2⟩ := vws2 hv
      exact ⟨_, rfl, fun Q q => ⟨_, _, rfl, _, _, Vw.dp _ h1 (SeqAt.canLay_of_shaped c.1), Vw.dp _ h2 (SeqAt.canLay_of_shaped c.2), c.1, c.2, q⟩⟩
    · cases e
  · cases e⟩
theorem vw_isNon {d : D} {v : V} (h : Vw K H d v) : decide (v = .non) = isNon d := by
  cases d with
  | non => simp only [Vw] at h; subst h; rfl
  | bl _ => simp only [Vw] at h; subst h; rfl
  | int _ => simp only [Vw] at h; subst h; rfl
  | str _ => simp only [Vw] at h; subst h; rfl
  | tup _ => obtain ⟨a, _, rfl, _⟩ := vw_tup h; rfl
  | lst _ => obtain ⟨a, _, rfl, _⟩ := vw_lst h; rfl
  | dct _ _ => simp only [Vw] at h; obtain ⟨a, _, rfl, _⟩ := h; rfl
  | scr _ => obtain ⟨a, rfl, _⟩ := vw_scr h; rfl
  | adr _ => simp only [Vw] at h; subst h; rfl
  | ntp _ => simp only [Vw] at h; obtain ⟨a, _, rfl, _⟩ := h; rfl
theorem bv_is : BinV X (compareOp .Is) isO := ⟨_, op_isN.or op_isBl, by
  intro H ds vs d hv e
  unfold isO at e
  split at e
  · cases e
    obtain ⟨v, w, rfl, h1, h2⟩ := vws2 hv
    simp only [Vw] at h2
    subst h2
    exact ⟨_, rfl, fun Q q => ⟨_, _, rfl, .inl ⟨rfl, by rw [vw_isNon h1]; exact q⟩⟩⟩
  · cases e
    obtain ⟨v, w, rfl, h1, h2⟩ := vws2 hv
    simp only [Vw] at h1 h2
    subst h1 h2
    exact ⟨_, rfl, fun Q q => ⟨_, _, rfl, .inr ⟨_, _, rfl, rfl, q⟩⟩⟩
  · cases e⟩
theorem bv_isnot : BinV X (compareOp .IsNot) notO := ⟨_, op_notN.or op_notBl, by
  intro H ds vs d hv e
  unfold notO at e
  split at e
  · cases e
    obtain ⟨v, w, rfl, h1, h2⟩ := vws2 hv
    simp only [Vw] at h2
    subst h2
    exact ⟨_, rfl, fun Q q => ⟨_, _, rfl, .inl ⟨rfl, by rw [vw_isNon h1]; exact q⟩⟩⟩
  · cases e
    obtain ⟨v, w, rfl, h1, h2⟩ := vws2 hv
    simp only [Vw] at h1 h2
    subst h1 h2
    exact ⟨_, rfl, fun Q q => ⟨_, _, rfl, .inr ⟨_, _, rfl, rfl, q⟩⟩⟩
  · cases e⟩
theorem inA_of {d : D} {ds : List D} {b : Bool} (e : inA d ds = some b) : ∃ v vs, toV d = some v ∧ atoms ds = some vs ∧ b = inV v vs := by
  unfold inA at e
  cases e1 : toV d with
  | none => rw [e1] at e; cases e
  | some v =>
    cases e2 : atoms ds with
    | none => rw [e1, e2] at e; cases e
    | some vs => rw [e1, e2] at e; cases e; exact ⟨v, vs, rfl, rfl, rfl⟩
theorem bv_in : BinV X (compareOp .In) inO := ⟨_, op_in_seq, by
  intro H ds vs d hv e
  unfold inO at e
  split at e
  · cases e1 : inA _ _ with
    | none => rw [e1] at e; cases e
    | some b =>
      rw [e1] at e; cases e
      obtain ⟨v, ws, ev, ew, rfl⟩ := inA_of e1
      obtain ⟨x, y, rfl, h1, h2⟩ := vws2 hv
      obtain ⟨a, as, rfl, ha, ha'⟩ := vw_lst h2
      rw [vws_atoms ew ha'] at ha
      rw [at_vw ev h1]
      exact ⟨_, rfl, fun Q q => ⟨_, _, rfl, _, _, rfl, .inl ha, toV_flat ev, atoms_flat ew, q⟩⟩
  · cases e1 : inA _ _ with
    | none => rw [e1] at e; cases e
    | some b =>
      rw [e1] at e; cases e
      obtain ⟨v, ws, ev, ew, rfl⟩ := inA_of e1
      obtain ⟨x, y, rfl, h1, h2⟩ := vws2 hv
      obtain ⟨a, as, rfl, ha, ha'⟩ := vw_tup h2
      rw [vws_atoms ew ha'] at ha
      rw [at_vw ev h1]
      exact ⟨_, rfl, fun Q q => ⟨_, _, rfl, _, _, rfl, .inr ha, toV_flat ev, atoms_flat ew, q⟩⟩
  · cases e⟩
theorem bv_nin : BinV X (compareOp .NotIn) ninO := ⟨_, op_notIn_seq, by
  intro H ds vs d hv e
  unfold ninO at e
  split at e
  · cases e1 : inA _ _ with
    | none => rw [e1] at e; cases e
    | some b =>
      rw [e1] at e; cases e
      obtain ⟨v, ws, ev, ew, rfl⟩ := inA_of e1
      obtain ⟨x, y, rfl, h1, h2⟩ := vws2 hv
      obtain ⟨a, as, rfl, ha, ha'⟩ := vw_lst h2
      rw [vws_atoms ew ha'] at ha
      rw [at_vw ev h1]
      exact ⟨_, rfl, fun Q q => ⟨_, _, rfl, _, _, rfl, .inl ha, toV_flat ev, atoms_flat ew, q⟩⟩
  · cases e1 : inA _ _ with
    | none => rw [e1] at e; cases e
    | some b =>
      rw [e1] at e; cases e
      obtain ⟨v, ws, ev, ew, rfl⟩ := inA_of e1
      obtain ⟨x, y, rfl, h1, h2⟩ := vws2 hv
      obtain ⟨a, as, rfl, ha, ha'⟩ := vw_tup h2
      rw [vws_atoms ew ha'] at ha
      rw [at_vw ev h1]
      exact ⟨_, rfl, fun Q q => ⟨_, _, rfl, _, _, rfl, .inr ha, toV_flat ev, atoms_flat ew, q⟩⟩
  · cases e⟩
theorem cs_len : CalS X (.builtin "len") lenO := ⟨_, call_len, by
  intro H ds vs d hv e
  unfold lenO at e
  split at e
  · cases e
    obtain ⟨v, rfl, h1⟩ := vws1 hv
    obtain ⟨a, as, rfl, ha, ha'⟩ := vw_lst h1
    exact ⟨_, rfl, fun Q q => ⟨_, _, rfl, .inl ⟨_, ha, rfl⟩, by rw [ha'.len]; exact q⟩⟩
  · cases e
    obtain ⟨v, rfl, h1⟩ := vws1 hv
    obtain ⟨a, as, rfl, ha, ha'⟩ := vw_tup h1
    exact ⟨_, rfl, fun Q q => ⟨_, _, rfl, .inr ⟨_, ha, rfl⟩, by rw [ha'.len]; exact q⟩⟩
  · cases e
    obtain ⟨v, rfl, h1⟩ := vws1 hv
    obtain ⟨a, rfl, ha⟩ := vw_scr h1
    exact ⟨_, rfl, fun Q q => ⟨_, _, rfl, .inl ⟨_, ha.sq, rfl⟩, by rw [List.length_map]; exact q⟩⟩
  · cases e⟩
theorem cs_abs : CalS X (.builtin "abs") absO := ⟨_, call_abs, by
  intro H ds vs d hv e
  unfold absO at e
  split at e
  · cases e
    obtain ⟨v, rfl, h1⟩ := vws1 hv
    simp only [Vw] at h1
    subst h1
    exact ⟨_, rfl, fun Q q => ⟨_, rfl, q⟩⟩
  · cases e⟩
theorem cs_int : CalS X (.type "int") intO := ⟨_, call_int1, by
  intro H ds vs d hv e
  unfold intO at e
  split at e
  · cases e
    obtain ⟨v, rfl, h1⟩ := vws1 hv
    simp only [Vw] at h1
    subst h1
    exact ⟨_, rfl, fun Q q => .inl ⟨_, rfl, q⟩⟩
  · cases e
    obtain ⟨v, rfl, h1⟩ := vws1 hv
    simp only [Vw] at h1
    subst h1
    exact ⟨_, rfl, fun Q q => .inr ⟨_, rfl, q⟩⟩
  · cases e⟩
theorem foldl_min_le : ∀ (ns : List Int) (n : Int), ns.foldl min n ≤ n ∧ (∀ y ∈ ns, ns.foldl min n ≤ y) ∧ (ns.foldl min n = n ∨ ns.foldl min n ∈ ns)
  | [], n => ⟨Int.le_refl _, fun y h => (by cases h), .inl rfl⟩
  | a :: r, n => by
    obtain ⟨h1, h2, h3⟩ := foldl_min_le r (min n a)
    simp only [List.foldl_cons]
    refine ⟨by omega, fun y hy => ?_, ?_⟩
    · rcases List.mem_cons.mp hy with rfl | hy
      · omega
      · exact h2 y hy
    · rcases h3 with h3 | h3
      · rw [h3]
        by_cases c : n ≤ a
        · exact .inl (by omega)
        · refine .inr (List.mem_cons.mpr (.inl (by omega)))
      · exact .inr (List.mem_cons_of_mem _ h3)
theorem foldl_max_ge : ∀ (ns : List Int) (n : Int), n ≤ ns.foldl max n ∧ (∀ y ∈ ns, y ≤ ns.foldl max n) ∧ (ns.foldl max n = n ∨ ns.foldl max n ∈ ns)
  | [], n => ⟨Int.le_refl _, fun y h => (by cases h), .inl rfl⟩
  | a :: r, n => by
    obtain ⟨h1, h2, h3⟩ := foldl_max_ge r (max n a)
    simp only [List.foldl_cons]
    refine ⟨by omega, fun y hy => ?_, ?_⟩
    · rcases List.mem_cons.mp hy with rfl | hy
      · omega
      · exact h2 y hy
    · rcases h3 with h3 | h3
      · rw [h3]
        by_cases c : a ≤ n
        · exact .inl (by omega)
        · refine .inr (List.mem_cons.mpr (.inl (by omega)))
      · exact .inr (List.mem_cons_of_mem _ h3)
theorem min_unique {n : Int} {ns : List Int} {m : Int} (h1 : m ∈ n :: ns) (h2 : ∀ y, y ∈ n :: ns → m ≤ y) : m = ns.foldl min n := by
  obtain ⟨a, b, c⟩ := foldl_min_le ns n
  have u1 : ns.foldl min n ≤ m := by
    rcases List.mem_cons.mp h1 with rfl | h
    · exact a
    · exact b m h
  have u2 : m ≤ ns.foldl min n := by
    rcases c with c | c
    · rw [c]; exact h2 n List.mem_cons_self
    · exact h2 _ (List.mem_cons_of_mem _ c)
  omega
theorem max_unique {n : Int} {ns : List Int} {m : Int} (h1 : m ∈ n :: ns) (h2 : ∀ y, y ∈ n :: ns → y ≤ m) : m = ns.foldl max n := by
  obtain ⟨a, b, c⟩ := foldl_max_ge ns n
  have u1 : m ≤ ns.foldl max n := by
    rcases List.mem_cons.mp h1 with rfl | h
    · exact a
    · exact b m h
  have u2 : ns.foldl max n ≤ m := by
    rcases c with c | c
    · rw [c]; exact h2 n List.mem_cons_self
    · exact h2 _ (List.mem_cons_of_mem _ c)
  omega
theorem CallR.or' {f : Value} {r r' : List V → Hp → VK → Prop} (h : CallR X f r) (h' : CallR X f r') : CallR X f (fun xs H Q => r xs H Q ∨ r' xs H Q) := L2.CallR.or h h'
theorem cs_min (hc : X.calm = true) : CalS X (.builtin "min") minO := ⟨_, CallR.or' (call_min2 hc) (cr_min hc), by
  intro H ds vs d hv e
  unfold minO at e
  split at e
  · cases e
    obtain ⟨v, w, rfl, h1, h2⟩ := vws2 hv
    simp only [Vw] at h1 h2
    subst h1 h2
    exact ⟨_, rfl, fun Q q => .inl ⟨_, _, rfl, q⟩⟩
  · split at e
    · rename_i n ns en
      cases e
      obtain ⟨v, rfl, h1⟩ := vws1 hv
      obtain ⟨a, as, rfl, ha, ha'⟩ := vw_lst h1
      rw [vws_ints en ha'] at ha
      exact ⟨_, rfl, fun Q q => .inr ⟨_, _, rfl, ha, Nat.succ_pos _, fun m m1 m2 => by rw [min_unique m1 m2]; exact q⟩⟩
    · cases e
  · cases e⟩
theorem cs_max (hc : X.calm = true) : CalS X (.builtin "max") maxO := ⟨_, CallR.or' (call_max2 hc) (cr_max hc), by
  intro H ds vs d hv e
  unfold maxO at e
  split at e
  · cases e
    obtain ⟨v, w, rfl, h1, h2⟩ := vws2 hv
    simp only [Vw] at h1 h2
    subst h1 h2
    exact ⟨_, rfl, fun Q q => .inl ⟨_, _, rfl, q⟩⟩
  · split at e
    · rename_i n ns en
      cases e
      obtain ⟨v, rfl, h1⟩ := vws1 hv
      obtain ⟨a, as, rfl, ha, ha'⟩ := vw_lst h1
      rw [vws_ints en ha'] at ha
      exact ⟨_, rfl, fun Q q => .inr ⟨_, _, rfl, ha, Nat.succ_pos _, fun m m1 m2 => by rw [max_unique m1 m2]; exact q⟩⟩
    · cases e
  · cases e⟩
theorem cs_sum (hc : X.calm = true) : CalS X (.builtin "sum") sumO := ⟨_, cr_sum hc, by
  intro H ds vs d hv e
  unfold sumO at e
  split at e
  · cases en : intsD _ with
    | none => rw [en] at e; cases e
    | some ns =>
      rw [en] at e; cases e
      obtain ⟨v, rfl, h1⟩ := vws1 hv
      obtain ⟨a, as, rfl, ha, ha'⟩ := vw_lst h1
      rw [vws_ints en ha'] at ha
      exact ⟨_, rfl, fun Q q => ⟨_, _, rfl, ha, q⟩⟩
  · cases e⟩
theorem cs_all (hc : X.calm = true) : CalS X (.builtin "all") allO := ⟨_, cr_all hc, by
  intro H ds vs d hv e
  unfold allO at e
  split at e
  · cases en : boolsD _ with
    | none => rw [en] at e; cases e
    | some ns =>
      rw [en] at e; cases e
      obtain ⟨v, rfl, h1⟩ := vws1 hv
      obtain ⟨a, as, rfl, ha, ha'⟩ := vw_lst h1
      rw [vws_bools en ha'] at ha
      exact ⟨_, rfl, fun Q q => ⟨_, _, rfl, ha, q⟩⟩
  · cases e⟩
theorem cs_any (hc : X.calm = true) : CalS X (.builtin "any") anyO := ⟨_, cr_any hc, by
  intro H ds vs d hv e
  unfold anyO at e
  split at e
  · cases en : boolsD _ with
    | none => rw [en] at e; cases e
    | some ns =>
      rw [en] at e; cases e
      obtain ⟨v, rfl, h1⟩ := vws1 hv
      obtain ⟨a, as, rfl, ha, ha'⟩ := vw_lst h1
      rw [vws_bools en ha'] at ha
      exact ⟨_, rfl, fun Q q => ⟨_, _, rfl, ha, q⟩⟩
  · cases e⟩
theorem atI_of {α β : Type} {xs : List α} {ys : List β} {i : Int} {d : α} (hl : ys.length = xs.length) (e : atI xs i = some d) : ∃ j : Nat, xs[j]? = some d ∧ ∀ v, ys[j]? = some v → atI ys i = some v := by
  unfold atI at e
  cases e1 : ixN xs.length i with
  | none => rw [e1] at e; cases e
  | some j =>
    rw [e1] at e
    refine ⟨j, e, fun v hv => ?_⟩
    unfold atI
    rw [hl, e1]
    exact hv
theorem callS_ix : CallS K (r2 (rIx K)) ixS := by
  intro H ds vs d hv e
  unfold ixS at e
  split at e
  · obtain ⟨v, w, rfl, h1, h2⟩ := vws2 hv
    obtain ⟨a, as, rfl, ha, ha'⟩ := vw_lst h1
    simp only [Vw] at h2
    subst h2
    obtain ⟨j, e1, e2⟩ := atI_of ha'.len e
    obtain ⟨x, e3, hx⟩ := ha'.get e1
    exact ⟨x, hx, fun Q q => ⟨_, _, rfl, .inl ⟨_, _, _, _, rfl, rfl, ha, e2 x e3, q⟩⟩⟩
  · obtain ⟨v, w, rfl, h1, h2⟩ := vws2 hv
    obtain ⟨a, as, rfl, ha, ha'⟩ := vw_tup h1
    simp only [Vw] at h2
    subst h2
    obtain ⟨j, e1, e2⟩ := atI_of ha'.len e
    obtain ⟨x, e3, hx⟩ := ha'.get e1
    exact ⟨x, hx, fun Q q => ⟨_, _, rfl, .inr (.inl ⟨_, _, _, _, rfl, rfl, ha, e2 x e3, q⟩)⟩⟩
  · cases e
/-- all frozen -/
theorem Repk.freeze {ds : List VD} {vs : List V} (h : Repk K Z H ds vs R) (g : Good Z H R) : Reps K (frz Z R fun _ => 0) H (ds.map (·.1)) 0 vs (fun _ => 0) ∧ Good (frz Z R fun _ => 0) H (fun _ => 0) ∧ Tr Z H R (frz Z R fun _ => 0) H (fun _ => 0) := by
  obtain ⟨S', l, r⟩ := Repk.weak 0 (fun _ _ => Nat.zero_le _) h g.one
  have e : S' = fun _ => 0 := funext (Reps.zero _ r)
  subst e
  exact ⟨r, g.frz fun b => Nat.zero_le _, Tr.frz g fun b => Nat.zero_le _⟩
theorem tabs_upd {p : Addr} {o : HO} (t : LamX.Tabs T H) (hp : H p = none) : LamX.Tabs T (upd H p o) := t.ext fun b u e => by rw [upd_ne (ne_of_none e hp)]; exact e
theorem kp_upd {p : Addr} {o : HO} (hp : H p = none) : Kp Z Z H (upd H p o) S := ⟨fun _ z => z, fun a u e _ _ => by rw [upd_ne (ne_of_none e hp)]; exact e⟩
theorem Tr.fresh {p : Addr} {o : HO} (hp : H p = none) : Tr Z H S Z (upd H p o) (fun b => f1 p b + S b) := ⟨fun _ z => z, fun a u e _ _ => by rw [upd_ne (ne_of_none e hp)]; exact e,
  fun a n => by
    have : a ≠ p := fun z => n (z ▸ hp)
    show f1 p a + S a ≤ S a
    rw [f1_ne this]; omega, fun a _ z => .inl z, fun a n => by
    have : a ≠ p := fun z => n (z ▸ hp)
    rw [upd_ne this]; exact n⟩
theorem Tr.fresh0 {p : Addr} {o : HO} (hp : H p = none) : Tr Z H S Z (upd H p o) S := (Tr.fresh hp).le fun b => Nat.le_add_left _ _
theorem Good.fresh {p : Addr} {o : HO} (g : Good Z H S) (hp : H p = none) (m : isMutO o = true) : Good Z (upd H p o) (fun b => f1 p b + S b) := by
  have sp : S p = 0 := by
    by_cases z : 0 < S p
    · obtain ⟨u, e, _⟩ := g.mt p z; rw [hp] at e; cases e
    · omega
  refine ⟨fun b => ?_, fun b h z => ?_, fun b z => ?_, fun b h => ?_⟩
  · show f1 p b + S b ≤ 1
    by_cases e : b = p
    · subst e; rw [f1_self, sp]; omega
    · rw [f1_ne e]; have := g.one b; omega
  · have h : 0 < f1 p b + S b := h
    by_cases e : b = p
    · subst e; exact g.zd _ z hp
    · rw [f1_ne e] at h; exact g.nz b (by omega) z
  · have : b ≠ p := fun e => g.zd b z (e ▸ hp)
    rw [upd_ne this]; exact g.zd b z
  · have h : 0 < f1 p b + S b := h
    by_cases e : b = p
    · subst e; exact ⟨o, upd_same, m⟩
    · rw [f1_ne e] at h; rw [upd_ne e]; exact g.mt b (by omega)
theorem Good.fresh0 {p : Addr} {o : HO} (g : Good Z H S) (hp : H p = none) : Good Z (upd H p o) S := by
  refine ⟨g.one, g.nz, fun b z => ?_, fun b h => ?_⟩
  · have : b ≠ p := fun e => g.zd b z (e ▸ hp)
    rw [upd_ne this]; exact g.zd b z
  · obtain ⟨u, e, m⟩ := g.mt b h
    exact ⟨u, by rw [upd_ne (ne_of_none e hp)]; exact e, m⟩
/-- a new list of frozen items -/
theorem newL {Q : VK} {ds : List D} {vs : List V} {p : Addr} {k : Nat} (tb : LamX.Tabs T H) (r : Reps K Z' H ds 0 vs (fun _ => 0)) (g : Good Z' H (fun _ => 0)) (t : Tr Z H R Z' H (fun _ => 0)) (hp : H p = none)
    (q : ∀ (v : V) (H' : Hp) (Z' : Addr → Prop) (R' : Ft), LamX.Tabs T H' → Rep K Z' H' (.lst ds) 1 v R' → Good Z' H' R' → Tr Z H R Z' H' R' → Q v H') : Q (.ref p) (upd H p (.lst vs)) :=
  q _ _ Z' (fun b => f1 p b + 0) (tabs_upd tb hp) (by simp only [Rep]; exact ⟨p, vs, fun _ => 0, rfl, upd_same, r.keep _ (kp_upd hp), fun _ => rfl⟩) (g.fresh hp rfl) (t.trans (Tr.fresh hp))
theorem newT {Q : VK} {ds : List D} {vs : List V} {p : Addr} (tb : LamX.Tabs T H) (r : Reps K Z' H ds 0 vs (fun _ => 0)) (g : Good Z' H (fun _ => 0)) (t : Tr Z H R Z' H (fun _ => 0)) (hp : H p = none)
    (q : ∀ (v : V) (H' : Hp) (Z' : Addr → Prop) (R' : Ft), LamX.Tabs T H' → Rep K Z' H' (.tup ds) 0 v R' → Good Z' H' R' → Tr Z H R Z' H' R' → Q v H') : Q (.ref p) (upd H p (.tup vs)) :=
  q _ _ Z' (fun _ => 0) (tabs_upd tb hp) (by simp only [Rep]; exact ⟨p, vs, rfl, .of upd_same, r.keep _ (kp_upd hp)⟩) (g.fresh0 hp) (t.trans (Tr.fresh0 hp))
def rTup : List V → Hp → VK → Prop := fun vs H Q => vs.length ≤ sizeLine ∧ ∀ p, H p = none → Q (.ref p) (upd H p (.tup vs))
def rLst : List V → Hp → VK → Prop := fun vs H Q => vs.length ≤ sizeLine ∧ ∀ p, H p = none → Q (.ref p) (upd H p (.lst vs))
theorem small1000' {n : Nat} (h : n ≤ 1000000) : n ≤ sizeLine := by rw [sizeLine_eq]; omega
theorem cd_tup : CallD K T rTup tupO := by
  intro Z H R ds vs dk Q hr g tb e q
  unfold tupO at e
  split at e
  · rename_i hl
    cases e
    obtain ⟨r, g', t⟩ := hr.freeze g
    exact ⟨small1000' (by rw [hr.len]; omega), fun p hp => newT tb r g' t hp q⟩
  · cases e
theorem cd_lst : CallD K T rLst lstO := by
  intro Z H R ds vs dk Q hr g tb e q
  unfold lstO at e
  split at e
  · rename_i hl
    cases e
    obtain ⟨r, g', t⟩ := hr.freeze g
    refine ⟨small1000' (by rw [hr.len]; omega), fun p hp => ?_⟩
    cases ds with
    | nil =>
      refine q _ _ _ (fun b => f1 p b + 0) (tabs_upd tb hp) ?_ (g'.fresh hp rfl) (t.trans (Tr.fresh hp))
      simp only [Repk] at hr
      obtain ⟨rfl, _⟩ := hr
      simp only [List.map_nil, List.isEmpty_nil, if_true, Rep]
      exact ⟨p, [], fun _ => 0, rfl, upd_same, by unfold Reps; exact ⟨rfl, fun _ => rfl⟩, fun _ => rfl⟩
    | cons d r' => exact newL (k := 1) tb r g' t hp q
  · cases e
end
end Em
set_option Elab.async false
set_option linter.all false
set_option maxRecDepth 100000
set_option maxHeartbeats 4000000
/-! Em 6: displays, slices, list + list, conversions, isinstance; the calls of defs. -/
namespace Em
open PySem L2

section
variable {K : PySem.W.Frag} {T : List (Addr × Str)} {Z Z' : Addr → Prop} {H H' : Hp} {S S' R : Ft} {X : Cx}
theorem repk2 {d e : VD} {vs : List V} (h : Repk K Z H [d, e] vs R) : ∃ v w, vs = [v, w] := by
  simp only [Repk] at h
  obtain ⟨v, r, S1, S2, rfl, h1, ⟨w, r', S3, S4, rfl, h2, ⟨rfl, _⟩, _⟩, _⟩ := h
  exact ⟨v, w, rfl⟩
theorem repk1 {d : VD} {vs : List V} (h : Repk K Z H [d] vs R) : ∃ v, vs = [v] := by
  simp only [Repk] at h
  obtain ⟨v, r, S1, S2, rfl, h1, ⟨rfl, _⟩, _⟩ := h
  exact ⟨v, rfl⟩
theorem reps1 {d : D} {v : V} (h : Reps K Z H [d] 0 [v] (fun _ => 0)) : Rep K Z H d 0 v (fun _ => 0) := by
  simp only [Reps] at h
  obtain ⟨v', r, S1, S2, e, h1, h2, hS⟩ := h
  cases e
  exact rep_ft h1 (Rep.zero _ h1)
theorem reps2 {d e : D} {v w : V} (h : Reps K Z H [d, e] 0 [v, w] (fun _ => 0)) : Rep K Z H d 0 v (fun _ => 0) ∧ Rep K Z H e 0 w (fun _ => 0) := by
  have h' := h
  unfold Reps at h'
  obtain ⟨v', r, S1, S2, e1, h1, h2, hS⟩ := h'
  cases e1
  exact ⟨rep_ft h1 (Rep.zero _ h1), reps1 (reps_ft h2 (Reps.zero _ h2))⟩
theorem rep_lst0 {ds : List D} {v : V} (h : Rep K Z H (.lst ds) 0 v (fun _ => 0)) : ∃ a vs, v = .ref a ∧ H a = some (.lst vs) ∧ Reps K Z H ds 0 vs (fun _ => 0) := by
  simp only [Rep] at h
  obtain ⟨a, vs, e, q, r⟩ := h
  exact ⟨a, vs, e, q.2, r⟩
theorem rep_tup0 {ds : List D} {v : V} (h : Rep K Z H (.tup ds) 0 v (fun _ => 0)) : ∃ a vs, v = .ref a ∧ SqT K H a vs ∧ Reps K Z H ds 0 vs (fun _ => 0) := by
  simp only [Rep] at h
  exact h
/-- two arguments, frozen -/
theorem two_frozen {d e : VD} {vs : List V} (h : Repk K Z H [d, e] vs R) (g : Good Z H R) : ∃ v w Z', vs = [v, w] ∧ Rep K Z' H d.1 0 v (fun _ => 0) ∧ Rep K Z' H e.1 0 w (fun _ => 0) ∧ Good Z' H (fun _ => 0) ∧ Tr Z H R Z' H (fun _ => 0) := by
  obtain ⟨v, w, rfl⟩ := repk2 h
  obtain ⟨r, g', t⟩ := h.freeze g
  obtain ⟨r1, r2⟩ := reps2 r
  exact ⟨v, w, _, rfl, r1, r2, g', t⟩
theorem one_frozen {d : VD} {vs : List V} (h : Repk K Z H [d] vs R) (g : Good Z H R) : ∃ v Z', vs = [v] ∧ Rep K Z' H d.1 0 v (fun _ => 0) ∧ Good Z' H (fun _ => 0) ∧ Tr Z H R Z' H (fun _ => 0) := by
  obtain ⟨v, rfl⟩ := repk1 h
  obtain ⟨r, g', t⟩ := h.freeze g
  exact ⟨v, _, rfl, reps1 r, g', t⟩
theorem reps_app0 {ds es : List D} {vs ws : List V} (h : Reps K Z H ds 0 vs (fun _ => 0)) (h' : Reps K Z H es 0 ws (fun _ => 0)) : Reps K Z H (ds ++ es) 0 (vs ++ ws) (fun _ => 0) := h.append h'
theorem reps_rep0 {ds : List D} {vs : List V} (h : Reps K Z H ds 0 vs (fun _ => 0)) : ∀ n : Nat, Reps K Z H (List.replicate n ds).flatten 0 (List.replicate n vs).flatten (fun _ => 0)
  | 0 => by simp only [List.replicate_zero, List.flatten_nil]; unfold Reps; exact ⟨rfl, fun _ => rfl⟩
  | n + 1 => by simp only [List.replicate_succ, List.flatten_cons]; exact reps_app0 h (reps_rep0 h n)
theorem bd_cat : BinD X T (binaryOp .Add) catO := ⟨_, (op_add.or op_cat).or op_catA, by
  intro Z H R ds vs dk Q hr g tb e q
  unfold catO at e
  split at e
  · cases e
    obtain ⟨v, w, Z', rfl, r1, r2', g', t⟩ := two_frozen hr g
    simp only [Rep] at r1 r2'
    obtain ⟨rfl, _⟩ := r1
    obtain ⟨rfl, _⟩ := r2'
    exact ⟨_, _, rfl, .inl (.inl ⟨_, _, rfl, rfl, q _ H Z' (fun _ => 0) tb (rep_at rfl _ fun _ => rfl) g' t⟩)⟩
  · split at e
    · rename_i hl; cases e
      obtain ⟨v, w, Z', rfl, r1, r2', g', t⟩ := two_frozen hr g
      obtain ⟨a, as, rfl, ha, ra⟩ := rep_lst0 r1
      obtain ⟨b, bs, rfl, hb, rb⟩ := rep_lst0 r2'
      exact ⟨_, _, rfl, .inl (.inr ⟨_, _, _, _, rfl, rfl, ha, hb, small1000' (by rw [ra.len, rb.len]; exact hl), fun p hp => newL tb (reps_app0 ra rb) g' t hp (k := 1) q⟩)⟩
    · cases e
  · split at e
    · rename_i hl; cases e
      obtain ⟨v, w, Z', rfl, r1, r2', g', t⟩ := two_frozen hr g
      obtain ⟨a, as, rfl, ha, ra⟩ := rep_tup0 r1
      obtain ⟨b, bs, rfl, hb, rb⟩ := rep_tup0 r2'
      refine ⟨_, _, rfl, .inr ⟨_, _, _, _, rfl, rfl, ha, hb, small1000' (by rw [ra.len, rb.len]; exact hl), fun ea => ?_, fun na eb => ?_, fun na nb p hp => newT tb (reps_app0 ra rb) g' t hp q⟩⟩
      · refine q _ H Z' (fun _ => 0) tb ?_ g' t
        subst ea
        have r := reps_app0 ra rb
        simp only [Rep]
        exact ⟨b, bs, rfl, hb, r⟩
      · refine q _ H Z' (fun _ => 0) tb ?_ g' t
        subst eb
        have r := reps_app0 ra rb
        rw [List.append_nil] at r
        simp only [Rep]
        exact ⟨a, as, rfl, ha, r⟩
    · cases e
  · cases e⟩
theorem bd_rep : BinD X T (binaryOp .Mult) repO := ⟨_, (op_mul.or op_rep).or op_repT, by
  intro Z H R ds vs dk Q hr g tb e q
  unfold repO at e
  split at e
  · rename_i i ki j kj
    obtain ⟨v, w, Z', rfl, r1, r2', g', t⟩ := two_frozen hr g
    simp only [Rep] at r1 r2'
    obtain ⟨rfl, _⟩ := r1
    obtain ⟨rfl, _⟩ := r2'
    simp only [mulO] at e
    split at e
    · rename_i c; cases e
      exact ⟨_, _, rfl, .inl (.inl ⟨_, _, rfl, rfl, c, q _ H Z' (fun _ => 0) tb (rep_at rfl _ fun _ => rfl) g' t⟩)⟩
    · cases e
  · split at e
    · rename_i c; cases e
      obtain ⟨v, w, Z', rfl, r1, r2', g', t⟩ := two_frozen hr g
      obtain ⟨a, as, rfl, ha, ra⟩ := rep_lst0 r1
      simp only [Rep] at r2'
      obtain ⟨rfl, _⟩ := r2'
      refine ⟨_, _, rfl, .inl (.inr ⟨_, _, _, rfl, rfl, ha, by omega, by omega, small1000' ?_, fun p hp => newL tb (reps_rep0 ra _) g' t hp (k := 1) q⟩)⟩
      rw [ra.len]
      exact Nat.le_trans (Nat.mul_le_mul c.2.2 (show Int.toNat _ ≤ 1000 by omega)) (by decide)
    · cases e
  · split at e
    · rename_i c; cases e
      obtain ⟨v, w, Z', rfl, r1, r2', g', t⟩ := two_frozen hr g
      obtain ⟨a, as, rfl, ha, ra⟩ := rep_tup0 r1
      simp only [Rep] at r2'
      obtain ⟨rfl, _⟩ := r2'
      refine ⟨_, _, rfl, .inr ⟨_, _, _, rfl, rfl, ha, ?_, c.1, c.2.1, by rw [ra.len]; exact c.2.2.1, fun p hp => newT tb (reps_rep0 ra _) g' t hp q⟩⟩
      intro z
      have := ra.len
      rw [z] at this
      exact c.2.2.2 (List.eq_nil_of_length_eq_zero this.symm)
    · cases e
  · cases e⟩
theorem map_two {ds : List VD} {a b : D} (e : ds.map (·.1) = [a, b]) : ∃ p q, ds = [p, q] := by
  cases ds with
  | nil => cases e
  | cons p r =>
    cases r with
    | nil => cases e
    | cons q r =>
      cases r with
      | nil => exact ⟨p, q, rfl⟩
      | cons _ _ => cases e
theorem cd_ix : CallD K T (r2 (rIx K)) ixO := by
  intro Z H R ds vs dk Q hr g tb e q
  unfold ixO at e
  cases e1 : ixS (ds.map (·.1)) with
  | none => rw [e1] at e; cases e
  | some d =>
    rw [e1] at e; cases e
    unfold ixS at e1
    split at e1
    · rename_i xs i e0
      obtain ⟨⟨d1, k1⟩, ⟨d2, k2⟩, rfl⟩ := map_two e0
      cases e0
      obtain ⟨v, w, Z', rfl, r1, r2', g', t⟩ := two_frozen hr g
      obtain ⟨a, as, rfl, ha, ra⟩ := rep_lst0 r1
      simp only [Rep] at r2'
      obtain ⟨rfl, _⟩ := r2'
      obtain ⟨j, e2, e3⟩ := atI_of ra.len e1
      obtain ⟨x, e4, hx⟩ := ra.get0 e2
      exact ⟨_, _, rfl, .inl ⟨_, _, _, _, rfl, rfl, .of ha, e3 x e4, q x H Z' (fun _ => 0) tb hx g' t⟩⟩
    · rename_i xs i e0
      obtain ⟨⟨d1, k1⟩, ⟨d2, k2⟩, rfl⟩ := map_two e0
      cases e0
      obtain ⟨v, w, Z', rfl, r1, r2', g', t⟩ := two_frozen hr g
      obtain ⟨a, as, rfl, ha, ra⟩ := rep_tup0 r1
      simp only [Rep] at r2'
      obtain ⟨rfl, _⟩ := r2'
      obtain ⟨j, e2, e3⟩ := atI_of ra.len e1
      obtain ⟨x, e4, hx⟩ := ra.get0 e2
      exact ⟨_, _, rfl, .inr (.inl ⟨_, _, _, _, rfl, rfl, ha, e3 x e4, q x H Z' (fun _ => 0) tb hx g' t⟩)⟩
    · cases e1
theorem cd_tupl : CalD X T (.type "tuple") tuplO := ⟨_, call_tuple_of, by
  intro Z H R ds vs dk Q hr g tb e q
  unfold tuplO at e
  split at e
  · cases e
    obtain ⟨v, Z', rfl, r1, g', t⟩ := one_frozen hr g
    obtain ⟨a, as, rfl, ha, ra⟩ := rep_lst0 r1
    exact ⟨_, _, rfl, .inl ⟨.of ha, fun p hp => newT tb ra g' t hp q⟩⟩
  · cases e
    obtain ⟨v, Z', rfl, r1, g', t⟩ := one_frozen hr g
    obtain ⟨a, as, rfl, ha, ra⟩ := rep_tup0 r1
    exact ⟨_, _, rfl, .inr ⟨ha, q _ H Z' (fun _ => 0) tb r1 g' t⟩⟩
  · cases e⟩
theorem cd_list : CalD X T (.type "list") listO := ⟨_, call_list_of, by
  intro Z H R ds vs dk Q hr g tb e q
  unfold listO at e
  split at e
  · cases e
    obtain ⟨v, Z', rfl, r1, g', t⟩ := one_frozen hr g
    obtain ⟨a, as, rfl, ha, ra⟩ := rep_lst0 r1
    exact ⟨_, _, rfl, .inl (.of ha), fun p hp => newL tb ra g' t hp (k := 1) q⟩
  · cases e
    obtain ⟨v, Z', rfl, r1, g', t⟩ := one_frozen hr g
    obtain ⟨a, as, rfl, ha, ra⟩ := rep_tup0 r1
    exact ⟨_, _, rfl, .inr ha, fun p hp => newL tb ra g' t hp (k := 1) q⟩
  · cases e⟩
end

section
variable {X : Cx} {T : List (Addr × Str)} {W : Wsh} {a b c e : Expr} {f g : M VD} {hS gS cS' : En → Option D} {pos : Pos} {x : Str}
theorem de_tup {es : List Expr} {fs : M (List VD)} {x1} (h : DA X T W es fs) : DE X T W (.Tuple es x1 pos) (opM tupO fs) := PE.imp (pe_tup h) fun σ H Q q => tD_op (r := rTup) cd_tup q
theorem de_lst {es : List Expr} {fs : M (List VD)} (h : DA X T W es fs) : DE X T W (.List es pos) (opM lstO fs) := PE.imp (pe_lst h) fun σ H Q q => tD_op (r := rLst) cd_lst q
theorem de_ix (ha : DE X T W a f) (hb : DE X T W b g) (hs : PlainIx b := by intro _ _; rfl) : DE X T W (.Subscript a b pos) (opM ixO (consM f (consM g nilM))) := PE.imp (pe_ix ix_seq ha hb hs) fun _ _ _ => tD_two cd_ix
theorem ds_ix (ha : DS X T a hS) (hb : DS X T b gS) (hs : PlainIx b := by intro _ _; rfl) : DS X T (.Subscript a b pos) (opS ixS (consS hS (consS gS nilS))) := PE.imp (pe_ix ix_seq ha hb hs) fun _ _ _ => tS_two callS_ix
/-- -a -/
def negO : List D → Option D | [.int i] => some (.int (-i)) | _ => none
theorem ds_neg (ha : DS X T a hS) : DS X T (.UnaryOp .USub a pos) (opS negO (consS hS nilS)) := by
  refine PE.imp (pe_un un_neg ha) fun σ H Q q => ?_
  obtain ⟨Z, S, ρ, d, sit, e, h⟩ := q
  unfold opS consS nilS at e
  cases e1 : hS ρ with
  | none => rw [e1] at e; cases e
  | some d1 =>
    rw [e1] at e
    simp only [Option.bind_some] at e
    unfold negO at e
    split at e
    · rename_i i e2
      cases e; cases e2
      refine ⟨Z, S, ρ, _, sit, e1, fun v hv => ?_⟩
      simp only [Vw] at hv
      subst hv
      exact ⟨i, rfl, h _ (by simp only [Vw])⟩
    · cases e
/-- isinstance(e, T) of a built-in class -/
theorem tyX_of {K : PySem.W.Frag} {H : Hp} {d : D} {v : V} (h : Vw K H d v) (hn : ∀ a, d ≠ .adr a) : TyX K H v (.type (tyN d)) := by
  have hl : ∀ {a vs}, SqL K H a vs → TyX K H (.ref a) (.type "list") := fun {a vs} h => by
    rcases h with (h | ⟨o, h⟩) | ⟨o, its, n, h1, h2, _⟩
    · exact .base (.lst h)
    · exact .base (.frz h)
    · exact .kList h1 h2
  cases d with
  | non => simp only [Vw] at h; subst h; exact .base .non
  | bl b => simp only [Vw] at h; subst h; exact .base (.bl b)
  | int b => simp only [Vw] at h; subst h; exact .base (.int b)
  | str b => simp only [Vw] at h; subst h; exact .base (.str b)
  | tup xs =>
    obtain ⟨a, vs, rfl, hs, _⟩ := vw_tup h
    rcases hs with (h | ⟨o, h⟩) | ⟨o, its, n, h1, h2, _⟩
    · exact .base (.tup h)
    · exact .fTuple h
    · exact .kTuple h1 h2
  | lst xs =>
    obtain ⟨a, vs, rfl, hs, _⟩ := vw_lst h
    exact hl hs
  | scr xs =>
    obtain ⟨a, rfl, hs⟩ := vw_scr h
    exact hl hs.sq
  | adr a => exact absurd rfl (hn a)
  | ntp xs =>
    simp only [Vw] at h
    obtain ⟨a, vs, rfl, ⟨o, h, _⟩, _⟩ := h
    exact .fTuple h
  | dct ks ds =>
    simp only [Vw] at h
    obtain ⟨a, vs, rfl, hs, _⟩ := h
    rcases hs with ⟨_, h, _⟩ | ⟨_, h, _⟩
    · exact .base (.dK h)
    · exact .base (.dT h)
theorem ds_isi {n : String} {p p2 : Pos} {y : Str} (ha : DS X T a hS) (hg : Gl X "isinstance") (hm : X.mg "isinstance" = none) (hg2 : Gl X y) (hm2 : X.mg y = none) (hv2 : bootBuiltins y = some (.type n)) (hn2 : y ≠ "__name__" := by decide) (hd2 : (y == ("__debug__" : Str)) = false := by decide)
    (hv : bootBuiltins "isinstance" = some (.builtin "isinstance") := by decide +kernel)
    (he : starEach [a, .Name y p2] X.env = (false, eval a X.env) :: starEach [.Name y p2] X.env := by rfl) (he2 : starEach [.Name y p2] X.env = (false, eval (.Name y p2) X.env) :: starEach [] X.env := by rfl) (hpl : (backTo pos (starEach [.Name y p2] X.env)).any (·.1) = false := by rfl) :
    DS X T (.Call (.Name "isinstance" p) [a, .Name y p2] [] pos) (opS (isiO n) (consS hS nilS)) := by
  refine PE.imp (pe_callB call_isi hg hm hv (pa_cons ha (pa_cons (pe_bltn (v := .ty n) hg2 hm2 hv2 rfl hn2 hd2) pa_nil he2) he) (by decide) (by decide) he hpl) fun σ H Q q => ?_
  obtain ⟨Z, S, ρ, d, sit, e, h⟩ := q
  unfold opS consS nilS at e
  cases e1 : hS ρ with
  | none => rw [e1] at e; cases e
  | some d1 =>
    rw [e1] at e
    simp only [Option.bind_some] at e
    unfold isiO at e
    split at e
    · cases e
    · rename_i d2 hn e0
      cases e0
      cases e2 : kitB (tyN d1) n with
      | none => simp only [e2] at e; cases e
      | some b =>
        simp only [e2] at e
        cases e
        exact ⟨Z, S, ρ, d1, sit, e1, fun v hv => ⟨v, .ty n, _, _, b, rfl, .ty n, tyX_of hv (fun a z => hn a (by rw [z])), kit_ty e2, h _ (by simp only [Vw])⟩⟩
    · cases e
/-! slices -/
def cutL {α : Type} (xs : List α) (lo hi : Option Int) : List α := (xs.drop (HT.sIx xs.length 0 lo)).take (HT.sIx xs.length xs.length hi - HT.sIx xs.length 0 lo)
def slO (d : D) (lo hi : Option Int) : Option VD := match d with
  | .lst xs => some (.lst (cutL xs lo hi), 1)
  | .tup xs => some (.tup (cutL xs lo hi), 0)
  | .scr xs => some (.lst ((cutL xs lo hi).map .int), 1)
  | _ => none
/-- a bound of a slice -/
def nobM : En → Option (Option Int) := fun _ => some none
def obM (h : En → Option D) : En → Option (Option Int) := fun ρ => match h ρ with | some (.int i) => some (some i) | _ => none
def slM (f : M VD) (lo hi : En → Option (Option Int)) : M VD := fun ρ => match f ρ with
  | .ok dk ρ1 => (match lo ρ1, hi ρ1 with | some l, some h => (match slO dk.1 l h with | some r => .ok r ρ1 | none => .no) | _, _ => .no)
  | .ex x => .ex x
  | .no => .no
def tO (K : PySem.W.Frag) (T : List (Addr × Str)) (h : En → Option (Option Int)) : TO := fun σ H Q => ∃ (Z : Addr → Prop) (S : Ft) (ρ : En) (o : Option Int), Sit K T Z H S σ ρ ∧ h ρ = some o ∧ Q o H
abbrev DO (X : Cx) (T : List (Addr × Str)) (e : Option Expr) (h : En → Option (Option Int)) : Prop := PO X e (tO X.K T h)
theorem do_none : DO X T none nobM := ⟨fun pins s σ H Q I q => po_none.run pins s σ H Q I (by obtain ⟨Z, S, ρ, o, sit, e, q⟩ := q; cases e; exact q)⟩
theorem do_some (h : DS X T e hS) : DO X T (some e) (obM hS) := ⟨fun pins s σ H Q I q => (po_some h).run pins s σ H Q I (by
  obtain ⟨Z, S, ρ, o, sit, e, q⟩ := q
  unfold obM at e
  split at e
  · rename_i i e1
    cases e
    refine ⟨Z, S, ρ, _, sit, e1, fun v hv => ?_⟩
    simp only [Vw] at hv
    exact ⟨i, hv, q⟩
  · cases e)⟩
theorem cutL_map {α β : Type} (f : α → β) (xs : List α) (lo hi : Option Int) : cutL (xs.map f) lo hi = (cutL xs lo hi).map f := by
  unfold cutL
  rw [List.length_map, List.map_take, List.map_drop]
theorem reps_cut {K : PySem.W.Frag} {Z : Addr → Prop} {H : Hp} {ds : List D} {vs : List V} (h : Reps K Z H ds 0 vs (fun _ => 0)) (lo hi : Option Int) : Reps K Z H (cutL ds lo hi) 0 (cutV vs lo hi) (fun _ => 0) := by
  have e := h.len
  unfold cutL cutV
  rw [e]
  exact (h.drop _).take _
theorem reps_ints {K : PySem.W.Frag} {Z : Addr → Prop} {H : Hp} : ∀ ns : List Int, Reps K Z H (ns.map .int) 0 (ns.map V.int) (fun _ => 0)
  | [] => by unfold Reps; exact ⟨rfl, fun _ => rfl⟩
  | n :: r => by
    simp only [List.map_cons, Reps]
    exact ⟨_, _, fun _ => 0, fun _ => 0, rfl, rep_at rfl 0 (fun _ => rfl), reps_ints r, fun _ => rfl⟩
/-- a new list, a new tuple of what is frozen, over a state -/
theorem fin_new {σ : L2.St} {ρ : En} {Z Z1 : Addr → Prop} {H H1 : Hp} {S R S1 : Ft} {Q : VK} {dk : VD} {v : V} {H2 : Hp} {Z2 : Addr → Prop} {R2 : Ft} {K : PySem.W.Frag} (h : Fin K T σ ρ dk Z H S Q) (s1 : Sit K T Z1 H1 S1 σ ρ) (g1 : Good Z1 H1 (fun b => R b + S1 b)) (t1 : Tr Z H S Z1 H1 (fun b => R b + S1 b))
    (tb : LamX.Tabs T H2) (r2 : Rep K Z2 H2 dk.1 dk.2 v R2) (g2 : Good Z2 H2 R2) (t2 : Tr Z1 H1 R Z2 H2 R2) : Q v H2 := by
  have gs : Good Z1 H1 (fun b => S1 b + R b) := g1.eq fun b => Nat.add_comm _ _
  have g := gs.hold t2 g2
  exact h v H2 Z2 R2 S1 (s1.kept (gs.kp t2) (g.le fun b => Nat.le_add_right _ _) tb) r2 (g.eq fun b => Nat.add_comm _ _)
    (t1.trans (((t2.hold S1).le (S1 := fun b => R2 b + S1 b) fun b => by show R2 b + S1 b ≤ S1 b + R2 b; omega).from fun b => by show S1 b + R b ≤ R b + S1 b; omega))
def rSl (K : PySem.W.Frag) : V → Option Int → Option Int → Hp → VK → Prop := fun x lo hi H Q => rSlL K x lo hi H Q ∨ rSlA K x lo hi H Q
theorem de_sl {lo hi : Option Expr} {fl fh : En → Option (Option Int)} {p2 : Pos} (he : DE X T W e f) (hl : DO X T lo fl) (hh : DO X T hi fh) : DE X T W (.Subscript e (.Slice lo hi none p2) pos) (slM f fl fh) := by
  refine PE.imp (pe_slice (r := rSl X.K) (sl_list.or sl_tupA) he hl hh) fun σ H Q q => ?_
  obtain ⟨Z, S, ρ, sit, q⟩ := q
  refine ⟨Z, S, ρ, sit, ?_⟩
  unfold slM at q
  cases e1 : f ρ with
  | no => rw [e1] at q; exact q
  | ex x => rw [e1] at q; exact q
  | ok dk ρ1 =>
    rw [e1] at q
    dsimp only at q
    intro v H1 Z1 R S1 s1 r1 g1 t1
    cases e2 : fl ρ1 with
    | none => rw [e2] at q; exact q.elim
    | some l =>
      cases e3 : fh ρ1 with
      | none => rw [e2, e3] at q; exact q.elim
      | some h =>
        rw [e2, e3] at q
        dsimp only at q
        refine ⟨Z1, S1, ρ1, l, s1, e2, Z1, S1, ρ1, h, s1, e3, ?_⟩
        cases e4 : slO dk.1 l h with
        | none => rw [e4] at q; exact q.elim
        | some res =>
          rw [e4] at q
          have rk : Repk X.K Z1 H1 [dk] [v] R := by
            simp only [Repk]
            exact ⟨v, [], R, fun _ => 0, rfl, r1, ⟨rfl, fun _ => rfl⟩, fun _ => rfl⟩
          have gR : Good Z1 H1 R := g1.le fun b => Nat.le_add_right _ _
          obtain ⟨w, Z', ew, r0, g', t'⟩ := one_frozen rk gR
          cases ew
          obtain ⟨d, k⟩ := dk
          dsimp only at r0 e4
          unfold slO at e4
          split at e4
          · cases e4
            obtain ⟨a, as, rfl, ha, ra⟩ := rep_lst0 r0
            exact .inl ⟨a, as, rfl, .of ha, fun p hp => newL (k := 1) (Q := Q) s1.tb (reps_cut ra l h) g' t' hp fun v' H' Z'' R' tb r' gr tr => fin_new q s1 g1 t1 tb r' gr tr⟩
          · cases e4
            obtain ⟨a, as, rfl, ha, ra⟩ := rep_tup0 r0
            refine .inr ⟨a, as, rfl, ha, fun hw => ?_, fun _ p hp => newT (Q := Q) s1.tb (reps_cut ra l h) g' t' hp fun v' H' Z'' R' tb r' gr tr => fin_new q s1 g1 t1 tb r' gr tr⟩
            refine fin_new q s1 g1 t1 s1.tb ?_ g' t'
            have rc := reps_cut ra l h
            have ec : cutV as l h = as := by
              unfold cutV
              rw [hw.1, hw.2]
              simp
            rw [ec] at rc
            simp only [Rep]
            exact ⟨a, as, rfl, ha, rc⟩
          · cases e4
            rename_i xs
            simp only [Rep] at r0
            obtain ⟨⟨a, rfl, ha⟩, _⟩ := r0
            refine .inl ⟨a, _, rfl, ha.sq, fun p hp => newL (k := 1) (Q := Q) s1.tb (ds := (cutL xs l h).map .int) (vs := cutV (xs.map V.int) l h) ?_ g' t' hp fun v' H' Z'' R' tb r' gr tr => fin_new q s1 g1 t1 tb r' gr tr⟩
            have := reps_ints (K := X.K) (Z := Z') (H := H1) (cutL xs l h)
            rw [show cutV (xs.map V.int) l h = (cutL xs l h).map V.int from cutL_map V.int xs l h]
            exact this
          · cases e4
end

/-! ### defs -/
inductive FR where
  | ok (dk : VD)
  | ex (x : Str)
  | no
inductive FI where
  | ok (dk : VD) (d : D)
  | ex (x : Str)
  | no
/-- what a def of data promises -/
def spP (K : PySem.W.Frag) (T : List (Addr × Str)) (mg : Str → Option Value) (n : Nat) (F : List D → FR) : Sp := fun vs H Q E => ∃ (Z : Addr → Prop) (ds : List D), ds.length = n ∧ Good Z H (fun _ => 0) ∧ Reps K Z H ds 0 vs (fun _ => 0) ∧ LamX.Tabs T H ∧ match F ds with
  | .ok dk => ∀ (v : V) (H' : Hp) (Z' : Addr → Prop) (R : Ft), LamX.Tabs T H' → Rep K Z' H' dk.1 dk.2 v R → Good Z' H' R → Tr Z H (fun _ => 0) Z' H' R → Q v H'
  | .ex x => ∀ (C : Addr) (H' : Hp), mg x = some (.ref C) → LamX.Tabs T H' → TrX H (fun _ => 0) H' → E (.ref C) none H'
  | .no => False
/-- .. whose first argument is changed -/
def spI (K : PySem.W.Frag) (T : List (Addr × Str)) (mg : Str → Option Value) (n : Nat) (F : D → List D → FI) : Sp := fun vs H Q E => ∃ (Z : Addr → Prop) (S : Ft) (d0 : D) (v0 : V) (ds : List D) (vr : List V), vs = v0 :: vr ∧ ds.length = n ∧ Good Z H S ∧ Rep K Z H d0 1 v0 S ∧ Reps K Z H ds 0 vr (fun _ => 0) ∧ LamX.Tabs T H ∧ match F d0 ds with
  | .ok dk d1 => ∀ (v : V) (H' : Hp) (Z' : Addr → Prop) (R S' : Ft), LamX.Tabs T H' → Rep K Z' H' dk.1 dk.2 v R → Rep K Z' H' d1 1 v0 S' → Good Z' H' (fun b => R b + S' b) → Tr Z H S Z' H' (fun b => R b + S' b) → Q v H'
  | .ex x => ∀ (C : Addr) (H' : Hp), mg x = some (.ref C) → LamX.Tabs T H' → TrX H S H' → E (.ref C) none H'
  | .no => False
/-- a def of the module that keeps a promise -/
structure Fn (P : Program) (w : World) (K : PySem.W.Frag) (mg : Str → Option Value) (base : Heap) (k : Nat) (x : Str) (sp : Sp) : Prop where
  ex : ∃ (f : Addr) (fd : FuncData) (ps : List Str), mg x = some (.ref f) ∧ PySem.W.keepIn K (.ref f) = true ∧ L2.Binds K fd ps [] ∧ FnOk P w K mg base (L2.CX P w) k f fd ps sp
abbrev Tk (X : Cx) (W : Wsh) : Prop := Takes X (fun cls d _ H => d = none ∧ W cls H)
def callM (F : List D → FR) (fs : M (List VD)) : M VD := fun ρ => match fs ρ with
  | .ok ds ρ1 => (match F (ds.map (·.1)) with | .ok dk => .ok dk ρ1 | .ex x => .ex x | .no => .no)
  | .ex x => .ex x
  | .no => .no
def callI (F : D → List D → FI) (i : Nat) (fs : M (List VD)) : M VD := fun ρ => match ρ[i]? with
  | some (some _) => (match fs ρ with
    | .ok ds ρ1 => (match ρ1[i]? with
      | some (some (d0, k + 1)) => (match F d0 (ds.map (·.1)) with | .ok dk d1 => .ok dk (ρ1.set i (some (d1, 1))) | .ex x => .ex x | .no => .no)
      | _ => .no)
    | .ex x => .ex x
    | .no => .no)
  | _ => .no
section
variable {X : Cx} {T : List (Addr × Str)} {W : Wsh} {a b c e : Expr} {es : List Expr} {fs : M (List VD)} {pos : Pos} {x : Str}
theorem tD_call {F : List D → FR} {n : Nat} {K : PySem.W.Frag} {mg : Str → Option Value} {σ : L2.St} {H : Hp} {Q : VK} {E : XK} (hE : ∀ C H', W (.ref C) H' → E (.ref C) none H') (hn : ∀ ρ ds ρ1, fs ρ = .ok ds ρ1 → ds.length = n)
    (h : tD K T mg W (callM F fs) σ H Q) : tL K T mg W fs σ H fun vs H1 => spP K T mg n F (vs ++ []) H1 Q E := by
  obtain ⟨Z, S, ρ, sit, h⟩ := h
  refine ⟨Z, S, ρ, sit, ?_⟩
  unfold callM at h
  cases e1 : fs ρ with
  | no => rw [e1] at h; exact h
  | ex x => rw [e1] at h; exact h
  | ok ds ρ1 =>
    rw [e1] at h
    dsimp only at h
    intro vs H1 Z1 R S1 s1 r1 g1 t1
    rw [List.append_nil]
    have gR : Good Z1 H1 R := g1.le fun b => Nat.le_add_right _ _
    obtain ⟨r0, g0, t0⟩ := r1.freeze gR
    refine ⟨_, ds.map (·.1), by rw [List.length_map]; exact hn ρ ds ρ1 e1, g0, r0, s1.tb, ?_⟩
    cases e2 : F (ds.map (·.1)) with
    | no => rw [e2] at h; exact h
    | ex x =>
      rw [e2] at h
      exact fun C H' hm ht hx => hE C H' (h C H' hm ht (t1.thenX ⟨fun a o e s n => hx.kp a o e rfl n, hx.dm⟩ fun x => Nat.le_refl _))
    | ok dk =>
      rw [e2] at h
      exact fun v H2 Z2 R2 tb2 r2 g2 t2 => fin_new h s1 g1 t1 tb2 r2 g2 (t0.trans t2)
theorem de_call {k n : Nat} {F : List D → FR} {p : Pos} (G : Fn X.prog X.w X.K X.mg X.base k x (spP X.K T X.mg n F)) (tk : Tk X W) (hr : Room k X.A) (hg : Gl X x) (ha : DA X T W (a :: es) fs) (hn : ∀ ρ ds ρ1, fs ρ = .ok ds ρ1 → ds.length = n)
    (hdb : (x == ("__debug__" : Str)) = false := by decide) (he : starEach (a :: es) X.env = (false, eval a X.env) :: starEach es X.env := by rfl) (hpl : (backTo pos (starEach es X.env)).any (·.1) = false := by rfl) :
    DE X T W (.Call (.Name x p) (a :: es) [] pos) (callM F fs) := by
  obtain ⟨f, fd, ps, hm, hk, hb, ok⟩ := G.ex
  exact PE.imp (pe_call (E := fun cls d H => d = none ∧ W cls H) (dvs := []) (ds := []) ok hr hg hm hk hb .nil (passes_call tk fun cls d σ H h => h) ha hdb he hpl) fun σ H Q q => tD_call (fun C H' h => ⟨rfl, h⟩) hn q
/-- the first argument a name, changed by the def -/
theorem de_callI {k n i : Nat} {F : D → List D → FI} {p : Pos} {y : Str} {py : Pos} (G : Fn X.prog X.w X.K X.mg X.base k x (spI X.K T X.mg n F)) (tk : Tk X W) (hr : Room k X.A) (hg : Gl X x) (ha : DA X T W es fs) (hn : ∀ ρ ds ρ1, fs ρ = .ok ds ρ1 → ds.length = n)
    (hN : X.N[i]? = some y := by rfl) (hv : Vis X.env.scope y := by first | exact Or.inl rfl | exact Or.inr (Or.inl rfl) | exact Or.inr (Or.inr rfl)) (hd : (y == ("__debug__" : Str)) = false := by decide)
    (hcd : (y == ("__classdict__" : Str)) = false := by decide)
    (hdb : (x == ("__debug__" : Str)) = false := by decide) (he : starEach (.Name y py :: es) X.env = (false, eval (.Name y py) X.env) :: starEach es X.env := by rfl) (hpl : (backTo pos (starEach es X.env)).any (·.1) = false := by rfl) :
    DE X T W (.Call (.Name x p) (.Name y py :: es) [] pos) (callI F i fs) := by
  obtain ⟨f, fd, ps, hm, hk, hb, ok⟩ := G.ex
  refine PE.imp (pe_call (E := fun cls d H => d = none ∧ W cls H) (dvs := []) (ds := []) ok hr hg hm hk hb .nil (passes_call tk fun cls d σ H h => h) (pa_cons (pe_var hN hv hd hcd) ha he) hdb he hpl) fun σ H Q q => ?_
  obtain ⟨Z, S, ρ, sit, h⟩ := q
  unfold callI at h
  cases e0 : ρ[i]? with
  | none => rw [e0] at h; exact h.elim
  | some o0 =>
  cases o0 with
  | none => rw [e0] at h; exact h.elim
  | some dk0 =>
  rw [e0] at h
  dsimp only at h
  obtain ⟨v0, _, _, ev0, _, _, _⟩ := sit.sl.take e0
  refine ⟨v0, ev0, Z, S, ρ, sit, ?_⟩
  cases e1 : fs ρ with
  | no => rw [e1] at h; exact h
  | ex x => rw [e1] at h; exact h
  | ok ds ρ1 =>
    rw [e1] at h
    dsimp only at h
    intro vs H1 Z1 R S1 s1 r1 g1 t1
    show spI X.K T X.mg n F (v0 :: vs ++ []) H1 Q _
    rw [List.append_nil]
    cases e2 : ρ1[i]? with
    | none => rw [e2] at h; exact h.elim
    | some o1 =>
    cases o1 with
    | none => rw [e2] at h; exact h.elim
    | some dk1 =>
    obtain ⟨d0, k1⟩ := dk1
    cases k1 with
    | zero => rw [e2] at h; exact h.elim
    | succ k =>
    rw [e2] at h
    dsimp only at h
    obtain ⟨v1, Z2, R0, S2, ev1, r0, s2, g2, t2⟩ := sit_take (j := 1) s1 e2 (Nat.succ_le_succ (Nat.zero_le _))
    rw [ev0] at ev1
    cases ev1
    have g1' : Good Z2 H1 (fun b => R b + (R0 b + S2 b)) := g1.hold t2 g2
    have r1' : Repk X.K Z2 H1 ds vs R := r1.keep (g1.kp t2)
    have t1' : Tr Z H S Z2 H1 (fun b => R b + (R0 b + S2 b)) := t1.trans (t2.hold R)
    obtain ⟨ra, ga, ta⟩ := r1'.freeze (g1'.le fun b => Nat.le_add_right _ _)
    have gq : Good (frz Z2 R fun _ => 0) H1 (fun b => (R0 b + S2 b) + 0) := (show Good Z2 H1 (fun b => (R0 b + S2 b) + R b) from g1'.eq fun b => Nat.add_comm _ _).hold ta ga
    have kq : ∀ {U : Ft}, Kp Z2 (frz Z2 R fun _ => 0) H1 H1 U := .same fun a z => .inl z
    refine ⟨_, R0, d0, v0, ds.map (·.1), vs, rfl, by rw [List.length_map]; exact hn ρ ds ρ1 e1, gq.le fun b => by show R0 b ≤ R0 b + S2 b + 0; omega, r0.keep _ kq, ra, s1.tb, ?_⟩
    have tq : Tr Z H S (frz Z2 R fun _ => 0) H1 (fun b => (R0 b + S2 b) + 0) := t1'.trans ((ta.hold (fun b => R0 b + S2 b)).from fun b => by show R0 b + S2 b + R b ≤ R b + (R0 b + S2 b); omega)
    cases e3 : F d0 (ds.map (·.1)) with
    | no => rw [e3] at h; exact h
    | ex x =>
      rw [e3] at h
      exact fun C H' hm ht hx => ⟨rfl, h C H' hm ht (tq.thenX hx fun x => by show R0 x ≤ R0 x + S2 x + 0; omega)⟩
    | ok dk d1 =>
      rw [e3] at h
      intro v H2 Z3 R3 R4 tb3 r3 r4 g3 t3
      have gs : Good (frz Z2 R fun _ => 0) H1 (fun b => S2 b + R0 b) := gq.eq fun b => by show R0 b + S2 b + 0 = S2 b + R0 b; omega
      have g4 := gs.hold t3 g3
      have s3 : Sit X.K T Z3 H2 S2 σ (ρ1.set i none) := ⟨(s2.sl.keep kq).keep (gs.kp t3), g4.le fun b => Nat.le_add_right _ _, tb3⟩
      have s4 := sit_put (dk := (d1, 1)) s3 (get_set_none e2) ev0 r4 (g4.le fun b => by show R4 b + S2 b ≤ S2 b + (R3 b + R4 b); omega)
      rw [set_none_set] at s4
      exact h v H2 Z3 R3 (fun b => R4 b + S2 b) s4 r3 (g4.eq fun b => by show S2 b + (R3 b + R4 b) = R3 b + (R4 b + S2 b); omega)
        (tq.trans (((t3.hold S2).le (S1 := fun b => R3 b + (R4 b + S2 b)) fun b => by show R3 b + (R4 b + S2 b) ≤ S2 b + (R3 b + R4 b); omega).from fun b => by show S2 b + R0 b ≤ R0 b + S2 b + 0; omega))
end
end Em
set_option Elab.async false
set_option linter.all false
set_option maxRecDepth 100000
set_option maxHeartbeats 4000000
/-! Em 7: statements, blocks, raise, the bodies of defs. -/
namespace Em
open PySem L2

inductive SR where
  | nx (ρ : En)
  | bk (ρ : En)
  | ct (ρ : En)
  | rt (dk : VD) (ρ : En)
  | ex (x : Str)
  | no
abbrev MS := En → SR
def Pin (pn : Bool) (σ σ' : L2.St) : Prop := pn = true → σ'[0]? = σ[0]?
section
variable (K : PySem.W.Frag) (T : List (Addr × Str)) (mg : Str → Option Value) (W : Wsh) (pn : Bool)
def Go (σ : L2.St) (ρ : En) (Z : Addr → Prop) (H : Hp) (S : Ft) (Q : L2.St → Hp → Prop) : Prop :=
  ∀ (σ' : L2.St) (H' : Hp) (Z' : Addr → Prop) (S' : Ft), Sit K T Z' H' S' σ' ρ → Tr Z H S Z' H' S' → Pin pn σ σ' → Q σ' H'
def Gr (σ : L2.St) (dk : VD) (ρ : En) (Z : Addr → Prop) (H : Hp) (S : Ft) (Q : VK) : Prop :=
  ∀ (σ' : L2.St) (v : V) (H' : Hp) (Z' : Addr → Prop) (R S' : Ft), Sit K T Z' H' S' σ' ρ → Rep K Z' H' dk.1 dk.2 v R → Good Z' H' (fun b => R b + S' b) → Tr Z H S Z' H' (fun b => R b + S' b) → Pin pn σ σ' → Q v H'
def okS (σ : L2.St) (r : SR) (D : Ends) (Z : Addr → Prop) (H : Hp) (S : Ft) : Prop := match r with
  | .nx ρ => Go K T pn σ ρ Z H S D.nx
  | .bk ρ => Go K T pn σ ρ Z H S D.bk
  | .ct ρ => Go K T pn σ ρ Z H S D.ct
  | .rt dk ρ => Gr K T pn σ dk ρ Z H S D.rt
  | .ex x => Xo T mg W x H S
  | .no => False
def tSt (f : MS) : TS := fun D σ H => ∃ (Z : Addr → Prop) (S : Ft) (ρ : En), Sit K T Z H S σ ρ ∧ okS K T mg W pn σ (f ρ) D Z H S
end
abbrev SS (X : Cx) (T : List (Addr × Str)) (W : Wsh) (pn : Bool) (st : Stmt) (f : MS) : Prop := PS X st (tSt X.K T X.mg W pn f)
abbrev SSs (X : Cx) (T : List (Addr × Str)) (W : Wsh) (pn : Bool) (st : List Stmt) (f : MS) : Prop := PSs X st (tSt X.K T X.mg W pn f)

def nxS : MS := fun ρ => .nx ρ
def seqS (f g : MS) : MS := fun ρ => match f ρ with | .nx ρ1 => g ρ1 | r => r
def retS (f : M VD) : MS := fun ρ => match f ρ with | .ok dk ρ1 => .rt dk ρ1 | .ex x => .ex x | .no => .no
def retV (i : Nat) : MS := fun ρ => match ρ[i]? with | some (some dk) => .rt dk (ρ.set i none) | _ => .no
def retN : MS := fun ρ => .rt (.non, 0) ρ
def dropS (f : M VD) : MS := fun ρ => match f ρ with | .ok _ ρ1 => .nx ρ1 | .ex x => .ex x | .no => .no
def ifS (c : M Bool) (f g : MS) : MS := fun ρ => match c ρ with | .ok true ρ1 => f ρ1 | .ok false ρ1 => g ρ1 | .ex x => .ex x | .no => .no
def setS (i : Nat) (f : M VD) : MS := fun ρ => match f ρ with
  | .ok dk ρ1 => (match ρ1[i]? with | some _ => .nx (ρ1.set i (some dk)) | none => .no)
  | .ex x => .ex x
  | .no => .no
def parS (i j : Nat) (f : M (List VD)) : MS := fun ρ => match f ρ with
  | .ok [d, e] ρ1 => (match ρ1[i]?, ρ1[j]? with | some _, some _ => .nx ((ρ1.set i (some d)).set j (some e)) | _, _ => .no)
  | .ok _ _ => .no
  | .ex x => .ex x
  | .no => .no
/-- targets -/
def tgN (i : Nat) : D → En → Option En := fun d ρ => match ρ[i]? with | some _ => some (ρ.set i (some (d, 0))) | none => none
def tgs : List (D → En → Option En) → List D → En → Option En
  | [], [], ρ => some ρ
  | t :: ts, d :: ds, ρ => (match t d ρ with | some ρ1 => tgs ts ds ρ1 | none => none)
  | _, _, _ => none
def tgT (ts : List (D → En → Option En)) : D → En → Option En := fun d ρ => match d with | .tup ds => tgs ts ds ρ | _ => none
def asgS (t : D → En → Option En) (f : M VD) : MS := fun ρ => match f ρ with
  | .ok dk ρ1 => (match t dk.1 ρ1 with | some ρ2 => .nx ρ2 | none => .no)
  | .ex x => .ex x
  | .no => .no
def setixS (i : Nat) (h : En → Option D) (f : M VD) : MS := fun ρ => match f ρ with
  | .ok dk ρ1 => (match ρ1[i]?, h ρ1 with
    | some (some (.lst ds, _ + 1)), some (.int z) => (match ixN ds.length z with | some j => .nx (ρ1.set i (some (.lst (ds.set j dk.1), 1))) | none => .no)
    | _, _ => .no)
  | .ex x => .ex x
  | .no => .no
def appS (i : Nat) (f : M VD) : MS := fun ρ => match ρ[i]? with
  | some (some (.lst _, _)) => (match f ρ with
    | .ok dk ρ1 => (match ρ1[i]? with
      | some (some (.lst ds, k + 1)) => if ds.length < 1000000 then .nx (ρ1.set i (some (.lst (ds ++ [dk.1]), min k dk.2 + 1))) else .no
      | _ => .no)
    | .ex x => .ex x
    | .no => .no)
  | _ => .no

section
variable {K : PySem.W.Frag} {T : List (Addr × Str)} {mg : Str → Option Value} {W : Wsh} {pn : Bool} {Z Z' Z1 : Addr → Prop} {H H' H1 : Hp} {S S' S1 R : Ft} {σ σ1 : L2.St} {ρ ρ1 : En} {Dn : Ends}
theorem Pin.refl : Pin pn σ σ := fun _ => rfl
theorem Pin.trans {σ2 : L2.St} (a : Pin pn σ σ1) (b : Pin pn σ1 σ2) : Pin pn σ σ2 := fun h => (b h).trans (a h)
theorem Pin.set {i : Nat} {x : Option V} (h : pn = true → i ≠ 0) : Pin pn σ (σ.set i x) := fun e => List.getElem?_set_ne (h e)
theorem okS_on {r : SR} (t : Tr Z H S Z1 H1 S1) (p : Pin pn σ σ1) (h : okS K T mg W pn σ r Dn Z H S) : okS K T mg W pn σ1 r Dn Z1 H1 S1 := by
  cases r with
  | nx ρ => exact fun σ' H' Z' S' s t' p' => h σ' H' Z' S' s (t.trans t') (p.trans p')
  | bk ρ => exact fun σ' H' Z' S' s t' p' => h σ' H' Z' S' s (t.trans t') (p.trans p')
  | ct ρ => exact fun σ' H' Z' S' s t' p' => h σ' H' Z' S' s (t.trans t') (p.trans p')
  | rt dk ρ => exact fun σ' v H' Z' R S' s r g t' p' => h σ' v H' Z' R S' s r g (t.trans t') (p.trans p')
  | ex x => exact fun C H' hm ht hx => h C H' hm ht (t.thenX hx fun x => Nat.le_refl _)
  | no => exact h
theorem tSt_seq {f g : MS} (h : tSt K T mg W pn (seqS f g) Dn σ H) : tSeq (tSt K T mg W pn f) (tSt K T mg W pn g) Dn σ H := by
  obtain ⟨Z, S, ρ, sit, h⟩ := h
  refine ⟨Z, S, ρ, sit, ?_⟩
  unfold seqS at h
  cases e : f ρ with
  | nx ρ1 =>
    rw [e] at h
    exact fun σ' H' Z' S' s t p => ⟨Z', S', ρ1, s, okS_on t p h⟩
  | bk _ => rw [e] at h; exact h
  | ct _ => rw [e] at h; exact h
  | rt _ _ => rw [e] at h; exact h
  | ex _ => rw [e] at h; exact h
  | no => rw [e] at h; exact h
theorem tSt_ret {f : M VD} (h : tSt K T mg W pn (retS f) Dn σ H) : tRet (tD K T mg W f) Dn σ H := by
  obtain ⟨Z, S, ρ, sit, h⟩ := h
  refine ⟨Z, S, ρ, sit, ?_⟩
  unfold retS at h
  cases e : f ρ with
  | no => rw [e] at h; exact h
  | ex x => rw [e] at h; exact h
  | ok dk ρ1 => rw [e] at h; exact fun v H' Z' R S' s r g t => h σ v H' Z' R S' s r g t .refl
theorem tSt_drop {f : M VD} (h : tSt K T mg W pn (dropS f) Dn σ H) : tDrop (tD K T mg W f) Dn σ H := by
  obtain ⟨Z, S, ρ, sit, h⟩ := h
  refine ⟨Z, S, ρ, sit, ?_⟩
  unfold dropS at h
  cases e : f ρ with
  | no => rw [e] at h; exact h
  | ex x => rw [e] at h; exact h
  | ok dk ρ1 => rw [e] at h; exact fun v H' Z' R S' s r g t => h σ H' Z' S' s (t.le fun b => Nat.le_add_left _ _) .refl
theorem tSt_if {c : M Bool} {f g : MS} (h : tSt K T mg W pn (ifS c f g) Dn σ H) : tIfS (tT K T mg W c) (tSt K T mg W pn f) (tSt K T mg W pn g) Dn σ H := by
  obtain ⟨Z, S, ρ, sit, h⟩ := h
  refine ⟨Z, S, ρ, sit, ?_⟩
  unfold ifS at h
  cases e : c ρ with
  | no => rw [e] at h; exact h
  | ex x => rw [e] at h; exact h
  | ok b ρ1 =>
    rw [e] at h
    intro H1 Z1 S1 s1 t1
    cases b with
    | true => exact iteT ⟨Z1, S1, ρ1, s1, okS_on t1 .refl h⟩
    | false => exact iteF ⟨Z1, S1, ρ1, s1, okS_on t1 .refl h⟩
/-- a slot filled anew -/
theorem sit_set {i : Nat} {dk : VD} {v : V} {o : Option VD} (s : Sit K T Z H S σ ρ) (e : ρ[i]? = some o) (r : Rep K Z H dk.1 dk.2 v R) (g : Good Z H (fun b => R b + S b)) :
    ∃ S2, Sit K T Z H S2 (σ.set i (some v)) (ρ.set i (some dk)) ∧ ∀ b, S2 b ≤ R b + S b := by
  obtain ⟨S2, sl, l⟩ := s.sl.drop i
  have sp := Slots.put sl (get_set_none e) r
  rw [set_none_set] at sp
  exact ⟨_, ⟨sp, g.le fun b => by have := l b; show R b + S2 b ≤ R b + S b; omega, s.tb⟩, fun b => by have := l b; show R b + S2 b ≤ R b + S b; omega⟩
theorem tSt_set {i : Nat} {f : M VD} (hp : pn = true → i ≠ 0) (h : tSt K T mg W pn (setS i f) Dn σ H) : tAsg (tD K T mg W f) (gName i) Dn σ H := by
  obtain ⟨Z, S, ρ, sit, h⟩ := h
  refine ⟨Z, S, ρ, sit, ?_⟩
  unfold setS at h
  cases e : f ρ with
  | no => rw [e] at h; exact h
  | ex x => rw [e] at h; exact h
  | ok dk ρ1 =>
    rw [e] at h
    dsimp only at h
    intro v H1 Z1 R S1 s1 r1 g1 t1
    cases e2 : ρ1[i]? with
    | none => rw [e2] at h; exact h.elim
    | some o =>
      rw [e2] at h
      obtain ⟨S2, s2, l2⟩ := sit_set s1 e2 r1 g1
      exact h _ H1 Z1 S2 s2 (t1.le l2) (.set hp)
/-- frozen values, one slot after another -/
def tG (K : PySem.W.Frag) (T : List (Addr × Str)) (pn : Bool) (t : D → En → Option En) : TG := fun v σ H Q => ∃ (Z : Addr → Prop) (S : Ft) (ρ ρ1 : En) (d : D), Sit K T Z H S σ ρ ∧ Rep K Z H d 0 v (fun _ => 0) ∧ t d ρ = some ρ1 ∧
  ∀ σ' S', Sit K T Z H S' σ' ρ1 → (∀ b, S' b ≤ S b) → Pin pn σ σ' → Q σ' H
def tGs (K : PySem.W.Frag) (T : List (Addr × Str)) (pn : Bool) (ts : List (D → En → Option En)) : TGs := fun vs σ H Q => ∃ (Z : Addr → Prop) (S : Ft) (ρ ρ1 : En) (ds : List D), Sit K T Z H S σ ρ ∧ Reps K Z H ds 0 vs (fun _ => 0) ∧ tgs ts ds ρ = some ρ1 ∧
  ∀ σ' S', Sit K T Z H S' σ' ρ1 → (∀ b, S' b ≤ S b) → Pin pn σ σ' → Q σ' H
end
abbrev DG (X : Cx) (T : List (Addr × Str)) (pn : Bool) (e : Expr) (t : D → En → Option En) : Prop := PG X e (tG X.K T pn t)
abbrev DGs (X : Cx) (T : List (Addr × Str)) (pn : Bool) (es : List Expr) (ts : List (D → En → Option En)) : Prop := PGs X es (tGs X.K T pn ts)
theorem PG.imp {X : Cx} {e : Expr} {t t' : TG} (h : PG X e t) (i : ∀ v σ H Q, t' v σ H Q → t v σ H Q) : PG X e t' := ⟨fun pins s σ H v u Q I r q => h.run pins s σ H v u Q I r (i v σ H Q q)⟩
theorem PGs.imp {X : Cx} {e : List Expr} {t t' : TGs} (h : PGs X e t) (i : ∀ v σ H Q, t' v σ H Q → t v σ H Q) : PGs X e t' := ⟨fun pins s σ H v u Q I r q => h.run pins s σ H v u Q I r (i v σ H Q q)⟩

section
variable {X : Cx} {T : List (Addr × Str)} {W : Wsh} {pn : Bool} {a b c e : Expr} {f g : M VD} {m1 m2 : MS} {hS gS : En → Option D} {pos : Pos} {x : Str} {st : Stmt} {rest body orelse : List Stmt}
theorem ss_nil : SSs X T W pn [] nxS := PSs.imp pss_nil fun D σ H h => by
  obtain ⟨Z, S, ρ, sit, h⟩ := h
  exact h σ H Z S sit (Tr.refl fun b => Nat.le_refl _) .refl
theorem ss_cons (h1 : SS X T W pn st m1) (h2 : SSs X T W pn rest m2) : SSs X T W pn (st :: rest) (seqS m1 m2) := PSs.imp (pss_cons h1 h2) fun _ _ _ => tSt_seq
theorem ss_one (h1 : SS X T W pn st m1) : SSs X T W pn [st] m1 := pss_one h1
theorem ss_ret (h : DE X T W e f) : SS X T W pn (.Return (some e) pos) (retS f) := PS.imp (ps_ret h) fun _ _ _ => tSt_ret
theorem ss_retV (i : Nat) {px : Pos} (hN : X.N[i]? = some x := by rfl) (hv : Vis X.env.scope x := by first | exact Or.inl rfl | exact Or.inr (Or.inl rfl) | exact Or.inr (Or.inr rfl)) (hd : (x == ("__debug__" : Str)) = false := by decide)
    (hcd : (x == ("__classdict__" : Str)) = false := by decide) : SS X T W pn (.Return (some (.Name x px)) pos) (retV i) := PS.imp (ps_ret (pe_var hN hv hd hcd)) fun D σ H h => by
  obtain ⟨Z, S, ρ, sit, h⟩ := h
  unfold retV at h
  cases e : ρ[i]? with
  | none => rw [e] at h; exact h.elim
  | some o =>
    cases o with
    | none => rw [e] at h; exact h.elim
    | some dk =>
      rw [e] at h
      obtain ⟨v, R, S2, ev, r, sl, hS⟩ := sit.sl.take e
      exact ⟨v, ev, h σ v H Z R S2 ⟨sl, sit.gd.le fun b => by have := hS b; omega, sit.tb⟩ r (sit.gd.eq hS) (Tr.refl fun b => by rw [hS b]; exact Nat.le_refl _) .refl⟩
theorem ss_retN : SS X T W pn (.Return none pos) retN := PS.imp ps_retN fun D σ H h => by
  obtain ⟨Z, S, ρ, sit, h⟩ := h
  exact h σ .non H Z (fun _ => 0) S sit (rep_at rfl _ fun _ => rfl) sit.good0 (Tr.refl fun b => by simp) .refl
theorem ss_expr (h : DE X T W e f) (hs : swapsWith e none pos.line X.env = pure false := by rfl) : SS X T W pn (.Expr e pos) (dropS f) := PS.imp (ps_expr h hs) fun _ _ _ => tSt_drop
theorem ss_pass : SS X T W pn (.Pass pos) nxS := PS.imp ps_pass fun D σ H h => by
  obtain ⟨Z, S, ρ, sit, h⟩ := h
  exact h σ H Z S sit (Tr.refl fun b => Nat.le_refl _) .refl
def bkS : MS := fun ρ => .bk ρ
def ctS : MS := fun ρ => .ct ρ
theorem ss_break : SS X T W pn (.Break pos) bkS := PS.imp ps_break fun D σ H h => by
  obtain ⟨Z, S, ρ, sit, h⟩ := h
  exact h σ H Z S sit (Tr.refl fun b => Nat.le_refl _) .refl
theorem ss_continue : SS X T W pn (.Continue pos) ctS := PS.imp ps_continue fun D σ H h => by
  obtain ⟨Z, S, ρ, sit, h⟩ := h
  exact h σ H Z S sit (Tr.refl fun b => Nat.le_refl _) .refl
theorem ss_if {t : M Bool} (hc : DT X T W c t) (h1 : SSs X T W pn body m1) (h2 : SSs X T W pn orelse m2) : SS X T W pn (.If c body orelse pos) (ifS t m1 m2) := PS.imp (ps_if hc h1 h2) fun _ _ _ => tSt_if
theorem ss_set (i : Nat) {pos' : Pos} (hN : X.N.Nodup) (he : DE X T W e f) (hi : X.N[i]? = some x := by rfl) (hx : Loc X.env.scope x := by first | exact Or.inl rfl | exact Or.inr rfl) (hs : swapsWith e (some (.Name x pos')) pos.line X.env = pure false := by rfl)
    (hf : X.fn x = true ∨ X.env.scope.names.lookup x = some .local := by first | exact .inl rfl | exact .inr rfl | assumption) (hp : pn = true → i ≠ 0 := by intro h; first | cases h; done | decide) : SS X T W pn (.Assign [.Name x pos'] e pos) (setS i f) :=
  PS.imp (ps_set hN hi hx he hs hf) fun _ _ _ => tSt_set hp
theorem ss_par (i j : Nat) {x y : Str} {fs : M (List VD)} {px py pt : Pos} {kt k2 pt2} (hc : X.calm = true) (hN : X.N.Nodup) (ha : DA X T W [a, b] fs) (hi : X.N[i]? = some x := by rfl) (hj : X.N[j]? = some y := by rfl) (hij : i ≠ j := by decide)
    (hx : X.env.scope.names.lookup x = some .local := by rfl) (hy : X.env.scope.names.lookup y = some .local := by rfl)
    (hw : swappedStores [.Tuple [.Name x px, .Name y py] kt pt] (.Tuple [a, b] k2 pt2) X.env = pure (some [x, y]) := by rfl)
    (hs : swapsWithSole [.Tuple [.Name x px, .Name y py] kt pt] (.Tuple [a, b] k2 pt2) pos.line X.env = pure false := by rfl) (hp : pn = true → i ≠ 0 := by intro h; first | cases h; done | decide) (hp2 : pn = true → j ≠ 0 := by intro h; first | cases h; done | decide) :
    SS X T W pn (.Assign [.Tuple [.Name x px, .Name y py] kt pt] (.Tuple [a, b] k2 pt2) pos) (parS i j fs) := by
  refine PS.imp (ps_par hc hN hi hj hij hx hy ha hw hs) fun D σ H h => ?_
  obtain ⟨Z, S, ρ, sit, h⟩ := h
  refine ⟨Z, S, ρ, sit, ?_⟩
  unfold parS at h
  cases e : fs ρ with
  | no => rw [e] at h; exact h
  | ex x => rw [e] at h; exact h
  | ok ds ρ1 =>
    rw [e] at h
    intro vs H1 Z1 R S1 s1 r1 g1 t1
    match ds, h with
    | [d, d'], h =>
      dsimp only at h
      simp only [Repk] at r1
      obtain ⟨v, r, Sa, Sb, rfl, q1, ⟨w, r', Sc, Sd, rfl, q2, ⟨rfl, z⟩, h3⟩, h4⟩ := r1
      refine ⟨v, w, rfl, ?_⟩
      cases e2 : ρ1[i]? with
      | none => rw [e2] at h; exact h.elim
      | some o =>
        cases e3 : ρ1[j]? with
        | none => rw [e2, e3] at h; exact h.elim
        | some o' =>
          rw [e2, e3] at h
          dsimp only at h
          obtain ⟨S2, s2, l2⟩ := sit_set s1 e2 q1 (g1.le fun b => by have := h4 b; show Sa b + S1 b ≤ R b + S1 b; omega)
          have e4 : (ρ1.set i (some d))[j]? = some o' := by rw [List.getElem?_set_ne hij]; exact e3
          obtain ⟨S3, s3, l3⟩ := sit_set s2 e4 q2 (g1.le fun b => by have := h4 b; have := h3 b; have := l2 b; show Sc b + S2 b ≤ R b + S1 b; omega)
          exact h _ H1 Z1 S3 s3 (t1.le fun b => by have := h4 b; have := h3 b; have := l2 b; have := l3 b; show S3 b ≤ R b + S1 b; omega) ((Pin.set hp).trans (Pin.set hp2))
/-! targets -/
theorem dg_name (i : Nat) (hN : X.N.Nodup) (hi : X.N[i]? = some x := by rfl) (hx : Loc X.env.scope x := by first | exact Or.inl rfl | exact Or.inr rfl) (hf : X.fn x = true ∨ X.env.scope.names.lookup x = some .local := by first | exact .inl rfl | exact .inr rfl | assumption)
    (hp : pn = true → i ≠ 0 := by intro h; first | cases h; done | decide) : DG X T pn (.Name x pos) (tgN i) := by
  refine PG.imp (pg_name hN hi hx hf) fun v σ H Q h => ?_
  obtain ⟨Z, S, ρ, ρ1, d, sit, r, e, h⟩ := h
  unfold tgN at e
  cases e2 : ρ[i]? with
  | none => rw [e2] at e; cases e
  | some o =>
    rw [e2] at e
    cases e
    obtain ⟨S2, s2, l2⟩ := sit_set (dk := (d, 0)) sit e2 r sit.good0
    exact h _ S2 s2 (fun b => by have := l2 b; have : S2 b ≤ 0 + S b := this; omega) (.set hp)
theorem dgs_nil : DGs X T pn [] [] := by
  refine PGs.imp pgs_nil fun v σ H Q h => ?_
  obtain ⟨Z, S, ρ, ρ1, ds, sit, r, e, h⟩ := h
  cases ds with
  | nil =>
    cases e
    unfold Reps at r
    exact ⟨r.1, h σ S sit (fun b => Nat.le_refl _) .refl⟩
  | cons _ _ => cases e
theorem dgs_cons {es : List Expr} {t : D → En → Option En} {ts : List (D → En → Option En)} (h1 : DG X T pn e t) (h2 : DGs X T pn es ts)
    (hs : (assignEach (e :: es) X.env).map (·.2) = assign e X.env :: (assignEach es X.env).map (·.2) := by rfl) : DGs X T pn (e :: es) (t :: ts) := by
  refine PGs.imp (pgs_cons h1 h2 hs) fun vs σ H Q h => ?_
  obtain ⟨Z, S, ρ, ρ1, ds, sit, r, e, h⟩ := h
  cases ds with
  | nil => cases e
  | cons d ds =>
    unfold tgs at e
    cases e2 : t d ρ with
    | none => rw [e2] at e; cases e
    | some ρ2 =>
      rw [e2] at e
      unfold Reps at r
      obtain ⟨v, r', S1, S2, rfl, q1, q2, _⟩ := r
      refine ⟨v, r', rfl, Z, S, ρ, ρ2, d, sit, rep_ft q1 (Rep.zero _ q1), e2, fun σ' S' s' l' p' => ?_⟩
      exact ⟨Z, S', ρ2, ρ1, ds, s', reps_ft q2 (Reps.zero _ q2), e, fun σ2 S2 s2 l2 p2 => h σ2 S2 s2 (fun b => Nat.le_trans (l2 b) (l' b)) (p'.trans p2)⟩
theorem tgs_len : ∀ {ts : List (D → En → Option En)} {ds : List D} {ρ ρ1 : En}, tgs ts ds ρ = some ρ1 → ds.length = ts.length
  | [], [], _, _, _ => rfl
  | [], _ :: _, _, _, h => by cases h
  | _ :: _, [], _, _, h => by cases h
  | t :: ts, d :: ds, ρ, ρ1, h => by
    unfold tgs at h
    cases e : t d ρ with
    | none => rw [e] at h; cases h
    | some ρ2 => rw [e] at h; simp only [List.length_cons, tgs_len h]
theorem dg_tup {es : List Expr} {ts : List (D → En → Option En)} {k : Nat} (hc : X.calm = true) (h : DGs X T pn es ts) (hl : (assignEach es X.env).length = ts.length := by rfl) (hst : (assignEach es X.env).findIdx? (·.1) = none := by rfl) : DG X T pn (.Tuple es k pos) (tgT ts) := by
  refine PG.imp (pg_tup hc h hl hst) fun v σ H Q h => ?_
  obtain ⟨Z, S, ρ, ρ1, d, sit, r, e, h⟩ := h
  cases d with
  | tup ds =>
    obtain ⟨a, vs, rfl, hs, rs⟩ := rep_tup0 r
    have e : tgs ts ds ρ = some ρ1 := e
    exact ⟨a, vs, rfl, hs, by rw [rs.len]; exact tgs_len e, Z, S, ρ, ρ1, ds, sit, rs, e, h⟩
  | _ => cases e
theorem ss_asg {tg : Expr} {t : D → En → Option En} (he : DE X T W e f) (hg : DG X T pn tg t) (hs : swapsWithSole [tg] e pos.line X.env = pure false := by rfl) (hw : swappedStores [tg] e X.env = pure none := by rfl)
    (h1 : (assignEach [tg] X.env).map (·.2) = [assign tg X.env] := by rfl) : SS X T W pn (.Assign [tg] e pos) (asgS t f) := by
  refine PS.imp (ps_asg he hg hs hw h1) fun D σ H h => ?_
  obtain ⟨Z, S, ρ, sit, h⟩ := h
  refine ⟨Z, S, ρ, sit, ?_⟩
  unfold asgS at h
  cases e : f ρ with
  | no => rw [e] at h; exact h
  | ex x => rw [e] at h; exact h
  | ok dk ρ1 =>
    rw [e] at h
    dsimp only at h
    intro v H1 Z1 R S1 s1 r1 g1 t1
    cases e2 : t dk.1 ρ1 with
    | none => rw [e2] at h; exact h.elim
    | some ρ2 =>
      rw [e2] at h
      have rk : Repk X.K Z1 H1 [dk] [v] R := by
        simp only [Repk]
        exact ⟨v, [], R, fun _ => 0, rfl, r1, ⟨rfl, fun _ => rfl⟩, fun _ => rfl⟩
      have gR : Good Z1 H1 R := g1.le fun b => Nat.le_add_right _ _
      obtain ⟨w, Z', ew, r0, g', t'⟩ := one_frozen rk gR
      cases ew
      have gs : Good Z1 H1 (fun b => S1 b + R b) := g1.eq fun b => Nat.add_comm _ _
      have gq := gs.hold t' g'
      have s2 : Sit X.K T Z' H1 S1 σ ρ1 := s1.kept (gs.kp t') (gq.le fun b => Nat.le_add_right _ _) s1.tb
      exact ⟨Z', S1, ρ1, ρ2, dk.1, s2, r0, e2, fun σ' S' s' l' p' => h σ' H1 Z' S' s' ((t1.trans ((t'.hold S1).from fun b => by show S1 b + R b ≤ R b + S1 b; omega)).le fun b => by have := l' b; show S' b ≤ S1 b + 0; omega) p'⟩
/-! stores -/
theorem Reps.set0 {K : PySem.W.Frag} {Z : Addr → Prop} {H : Hp} : ∀ {ds : List D} {vs : List V} {d : D} {v : V} (j : Nat), Reps K Z H ds 0 vs (fun _ => 0) → Rep K Z H d 0 v (fun _ => 0) → Reps K Z H (ds.set j d) 0 (vs.set j v) (fun _ => 0)
  | [], vs, d, v, j, h, _ => by
    have h' := h
    unfold Reps at h'
    obtain ⟨rfl, _⟩ := h'
    exact h
  | d0 :: r, vs, d, v, 0, h, q => by
    unfold Reps at h
    obtain ⟨v0, r', S1, S2, rfl, q1, q2, _⟩ := h
    simp only [List.set_cons_zero]
    unfold Reps
    exact ⟨v, r', fun _ => 0, fun _ => 0, rfl, q, reps_ft q2 (Reps.zero _ q2), fun _ => rfl⟩
  | d0 :: r, vs, d, v, j + 1, h, q => by
    unfold Reps at h
    obtain ⟨v0, r', S1, S2, rfl, q1, q2, _⟩ := h
    simp only [List.set_cons_succ]
    unfold Reps
    exact ⟨v0, r'.set j v, fun _ => 0, fun _ => 0, rfl, rep_ft q1 (Rep.zero _ q1), Reps.set0 j (reps_ft q2 (Reps.zero _ q2)) q, fun _ => rfl⟩
/-- an owned thing is written -/
theorem Good.write {Z : Addr → Prop} {H : Hp} {S : Ft} {a : Addr} {o : HO} (g : Good Z H S) (ha : 0 < S a) (m : isMutO o = true) : Good Z (upd H a o) S := by
  refine ⟨g.one, g.nz, fun b z => ?_, fun b h => ?_⟩
  · have : b ≠ a := fun e => g.nz a ha (e ▸ z)
    rw [upd_ne this]; exact g.zd b z
  · by_cases e : b = a
    · subst e; exact ⟨o, upd_same, m⟩
    · rw [upd_ne e]; exact g.mt b h
theorem Tr.write {Z : Addr → Prop} {H : Hp} {S : Ft} {a : Addr} {o : HO} (ha : 0 < S a) : Tr Z H S Z (upd H a o) S :=
  ⟨fun _ z => z, fun b u e z _ => by
    have : b ≠ a := fun q => by subst q; omega
    rw [upd_ne this]; exact e, fun b _ => Nat.le_refl _, fun b _ z => .inl z, fun b n => by
    by_cases e : b = a
    · subst e; rw [upd_same]; simp
    · rw [upd_ne e]; exact n⟩
theorem kp_write {Z : Addr → Prop} {H : Hp} {S R : Ft} {a : Addr} {o : HO} (g : Good Z H S) (ha : 0 < S a) (hR : R a = 0) : Kp Z Z H (upd H a o) R :=
  ⟨fun _ z => z, fun b u e c _ => by
    have : b ≠ a := fun q => by
      subst q
      rcases c with c | c | c
      · omega
      · exact g.nz _ ha c
      · obtain ⟨w, e', m⟩ := g.mt _ ha
        rw [e] at e'; cases e'; rw [c] at m; cases m
    rw [upd_ne this]; exact e⟩
theorem tabs_write {T : List (Addr × Str)} {Z : Addr → Prop} {H : Hp} {S : Ft} {a : Addr} {o : HO} (t : LamX.Tabs T H) (g : Good Z H S) (ha : 0 < S a) : LamX.Tabs T (upd H a o) := fun p hp => by
  obtain ⟨ps, h1, h2, h3⟩ := t p hp
  obtain ⟨w, e', m⟩ := g.mt a ha
  have n1 : p.1 ≠ a := fun q => by rw [q, e'] at h1; cases h1; cases m
  refine ⟨ps, by rw [upd_ne n1]; exact h1, h2, fun pos cv hc => ?_⟩
  obtain ⟨c, e1, e2⟩ := h3 pos cv hc
  refine ⟨c, e1, ?_⟩
  have n2 : c ≠ a := fun q => by
    rw [q, e'] at e2
    have e2 := Option.some.inj e2
    rw [e2] at m
    cases m
  rw [upd_ne n2]; exact e2
theorem rep_lstS {K : PySem.W.Frag} {Z : Addr → Prop} {H : Hp} {ds : List D} {k : Nat} {v : V} {S : Ft} (h : Rep K Z H (.lst ds) (k + 1) v S) : ∃ a vs S', v = .ref a ∧ H a = some (.lst vs) ∧ Reps K Z H ds k vs S' ∧ ∀ b, S b = f1 a b + S' b := by
  simp only [Rep] at h
  exact h
/-- the items of an owned list are new: j what the depth within is -/
theorem write_list {K : PySem.W.Frag} {T : List (Addr × Str)} {Z : Addr → Prop} {H : Hp} {S R : Ft} {a : Addr} {ds : List D} {ws : List V} {j : Nat} {σ : L2.St} {ρ : En} {i : Nat} (s : Sit K T Z H S σ (ρ.set i none)) (g : Good Z H (fun b => (f1 a b + R b) + S b)) (r : Reps K Z H ds j ws R) (he : (ρ.set i none)[i]? = some none) (ev : σ[i]? = some (some (.ref a))) :
    Sit K T Z (upd H a (.lst ws)) (fun b => (f1 a b + R b) + S b) σ (ρ.set i (some (.lst ds, j + 1))) ∧ Tr Z H (fun b => (f1 a b + R b) + S b) Z (upd H a (.lst ws)) (fun b => (f1 a b + R b) + S b) := by
  have ha : 0 < (fun b => (f1 a b + R b) + S b) a := by show 0 < f1 a a + R a + S a; rw [f1_self]; omega
  have h1 : f1 a a + R a + S a ≤ 1 := g.one a
  rw [f1_self] at h1
  have r' : Rep K Z (upd H a (.lst ws)) (.lst ds) (j + 1) (.ref a) (fun b => f1 a b + R b) := by
    simp only [Rep]
    exact ⟨a, ws, R, rfl, upd_same, r.keep _ (kp_write g ha (by omega)), fun _ => rfl⟩
  have s' : Sit K T Z (upd H a (.lst ws)) S σ (ρ.set i none) := ⟨s.sl.keep (kp_write g ha (by omega)), (g.write ha rfl).le fun b => Nat.le_add_left _ _, tabs_write s.tb g ha⟩
  have sp := sit_put (dk := (.lst ds, j + 1)) s' he ev r' (g.write ha rfl)
  rw [set_none_set] at sp
  exact ⟨sp, Tr.write ha⟩
theorem ss_setix (i : Nat) {px : Pos} {ix : Expr} {sp : Pos} (he : DE X T W e f) (hi : DS X T ix hS) (hN : X.N[i]? = some x := by rfl) (hv : Vis X.env.scope x := by first | exact Or.inl rfl | exact Or.inr (Or.inl rfl) | exact Or.inr (Or.inr rfl)) (hd : (x == ("__debug__" : Str)) = false := by decide)
    (hcd : (x == ("__classdict__" : Str)) = false := by decide)
    (hs : swapsWithSole [.Subscript (.Name x px) ix sp] e pos.line X.env = pure false := by rfl) (hw : swappedStores [.Subscript (.Name x px) ix sp] e X.env = pure none := by rfl)
    (h1 : (assignEach [.Subscript (.Name x px) ix sp] X.env).map (·.2) = [assign (.Subscript (.Name x px) ix sp) X.env] := by rfl)
    (ha : ∀ v, assign (.Subscript (.Name x px) ix sp) X.env v = (do
      let ov ← holding [v] (eval (.Name x px) X.env)
      let iv ← holding [v, ov] (eval ix X.env)
      standAt sp
      holding [v, ov, iv] (setItem ov iv v)
      release [v, ov, iv] []) := by intro _; rfl) :
    SS X T W pn (.Assign [.Subscript (.Name x px) ix sp] e pos) (setixS i hS f) := by
  refine PS.imp (ps_asg he (pg_sub (pe_var hN hv hd hcd) hi set_list ha) hs hw h1) fun D σ H h => ?_
  obtain ⟨Z, S, ρ, sit, h⟩ := h
  refine ⟨Z, S, ρ, sit, ?_⟩
  unfold setixS at h
  cases e1 : f ρ with
  | no => rw [e1] at h; exact h
  | ex x => rw [e1] at h; exact h
  | ok dk ρ1 =>
    rw [e1] at h
    dsimp only at h
    intro v H1 Z1 R S1 s1 r1 g1 t1
    split at h
    · rename_i ds k z e2 e3
      cases e4 : ixN ds.length z with
      | none => rw [e4] at h; exact h.elim
      | some j =>
        rw [e4] at h
        dsimp only at h
        -- the value frozen
        have rk : Repk X.K Z1 H1 [dk] [v] R := by
          simp only [Repk]
          exact ⟨v, [], R, fun _ => 0, rfl, r1, ⟨rfl, fun _ => rfl⟩, fun _ => rfl⟩
        obtain ⟨w, Z2, ew, r0, g2, t2⟩ := one_frozen rk (g1.le fun b => Nat.le_add_right _ _)
        cases ew
        have gs : Good Z1 H1 (fun b => S1 b + R b) := g1.eq fun b => Nat.add_comm _ _
        have gq := gs.hold t2 g2
        have s2 : Sit X.K T Z2 H1 S1 σ ρ1 := s1.kept (gs.kp t2) (gq.le fun b => Nat.le_add_right _ _) s1.tb
        have tq : Tr Z H S Z2 H1 S1 := (t1.trans ((t2.hold S1).from fun b => by show S1 b + R b ≤ R b + S1 b; omega)).le fun b => Nat.le_add_right _ _
        -- the list at depth 1
        obtain ⟨o, Z3, R3, S3, ev, r3, s3, g3, t3⟩ := sit_take (j := 1) s2 e2 (Nat.succ_le_succ (Nat.zero_le _))
        obtain ⟨a, vs, R4, rfl, hH, r4, hR⟩ := rep_lstS r3
        have z4 := Reps.zero _ r4
        refine ⟨.ref a, ev, Z1, S1, ρ1, .int z, s1, e3, fun iv hiv => ?_⟩
        simp only [Vw] at hiv
        subst hiv
        refine ⟨a, vs, z, j, rfl, rfl, hH, by rw [r4.len]; exact e4, ?_⟩
        have r5 : Reps X.K Z3 H1 (ds.set j dk.1) 0 (vs.set j v) (fun _ => 0) := Reps.set0 j (reps_ft r4 z4) (r0.keep _ (.same t3.zz))
        have g4 : Good Z3 H1 (fun b => f1 a b + (fun _ => 0) b + S3 b) := g3.eq fun b => by have := hR b; have := z4 b; show R3 b + S3 b = f1 a b + 0 + S3 b; omega
        obtain ⟨s5, t5⟩ := write_list (j := 0) s3 g4 r5 (get_set_none e2) ev
        exact h σ _ Z3 _ s5 ((tq.trans (t3.eq fun b => by have := hR b; have := z4 b; show R3 b + S3 b = f1 a b + 0 + S3 b; omega)).trans t5) .refl
    · exact h.elim
theorem Reps.snoc {K : PySem.W.Frag} {Z : Addr → Prop} {H : Hp} {ds : List D} {vs : List V} {d : D} {v : V} {k : Nat} {S S' : Ft} (h : Reps K Z H ds k vs S) (q : Rep K Z H d k v S') : Reps K Z H (ds ++ [d]) k (vs ++ [v]) (fun b => S b + S' b) :=
  h.append (by unfold Reps; exact ⟨v, [], S', fun _ => 0, rfl, q, by unfold Reps; exact ⟨rfl, fun _ => rfl⟩, fun _ => rfl⟩)
theorem ss_append (i : Nat) {px ap cp : Pos} (he : DE X T W e f) (hN : X.N[i]? = some x := by rfl) (hv : Vis X.env.scope x := by first | exact Or.inl rfl | exact Or.inr (Or.inl rfl) | exact Or.inr (Or.inr rfl)) (hd : (x == ("__debug__" : Str)) = false := by decide)
    (hcd : (x == ("__classdict__" : Str)) = false := by decide) (hs : swapsWith (.Call (.Attribute (.Name x px) "append" ap) [e] [] cp) none pos.line X.env = pure false := by rfl)
    (hbase : attributeBase (.Name x px) "append" X.env (eval (.Name x px) X.env) = eval (.Name x px) X.env := by rfl)
    (hfew : ((backTo cp (starEach [e] X.env)).all (fun x => !x.1) && (backToKw cp (keywordEach [] X.env)).all (fun x => x.1.isSome)
      && decide (([e] : List Expr).length + ([] : List Keyword).length + (if ([] : List Keyword).isEmpty then 0 else 1) < 30)) = true := by rfl)
    (hline : (ap.endLine == cp.line) = true := by rfl) (hst : starEach [e] X.env = (false, eval e X.env) :: starEach [] X.env := by rfl) (hplain : (backTo cp (starEach [] X.env)).any (·.1) = false := by rfl) :
    SS X T W pn (.Expr (.Call (.Attribute (.Name x px) "append" ap) [e] [] cp) pos) (appS i f) := by
  refine PS.imp (ps_expr (pe_bm PySem.F.plainAttrs_list PySem.F.slot_list_append PySem.F.type_list_append mt_append (pe_var hN hv hd hcd) (pa_cons he pa_nil hst) hbase hfew hline hst hplain) hs) fun D σ H h => ?_
  obtain ⟨Z, S, ρ, sit, h⟩ := h
  unfold appS at h
  split at h
  case h_2 => exact h.elim
  rename_i ds0 k0 e0
  obtain ⟨v0, Sa, _, ev0, r0, _, _⟩ := sit.sl.take e0
  obtain ⟨a0, vs0, rfl, hs0, _⟩ := vw_lst (Rep.vw _ r0)
  refine ⟨_, ev0, .inl ⟨rfl, _, hs0⟩, Z, S, ρ, sit, ?_⟩
  cases e1 : f ρ with
  | no => rw [e1] at h; exact h
  | ex x => rw [e1] at h; exact h
  | ok dk ρ1 =>
    rw [e1] at h
    dsimp only at h
    intro v H1 Z1 R S1 s1 rv1 g1 t1
    have r1 : Repk X.K Z1 H1 [dk] [v] R := by
      unfold Repk
      exact ⟨v, [], R, fun _ => 0, rfl, rv1, by unfold Repk; exact ⟨rfl, fun _ => rfl⟩, fun _ => rfl⟩
    split at h
    · rename_i ds k e2
      split at h
      · rename_i hl
        -- the list to its new depth
        obtain ⟨o, Z3, R3, S3, ev, r3, s3, g3, t3⟩ := sit_take (j := min k dk.2 + 1) s1 e2 (Nat.succ_le_succ (Nat.min_le_left _ _))
        rw [ev0] at ev
        cases ev
        obtain ⟨a, ws, R4, ea, hH, r4, hR⟩ := rep_lstS r3
        cases ea
        have g4 : Good Z3 H1 (fun b => R b + (R3 b + S3 b)) := g1.hold t3 g3
        have r1' : Repk X.K Z3 H1 [dk] [v] R := r1.keep (g1.kp t3)
        obtain ⟨R5, l5, r5⟩ := Repk.weak (min k dk.2) (fun p hp => by
          rcases List.mem_cons.mp hp with rfl | hp
          · exact Nat.min_le_right _ _
          · cases hp) r1' (fun b => by have := g4.one b; have : R b + (R3 b + S3 b) ≤ 1 := this; omega)
        have r5' := r5
        simp only [List.map_cons, List.map_nil] at r5'
        unfold Reps at r5'
        obtain ⟨w, r', Q1, Q2, ew, q1, q2, hQ⟩ := r5'
        cases ew
        unfold Reps at q2
        obtain ⟨_, z2⟩ := q2
        have eQ : ∀ b, Q1 b = R5 b := fun b => by have := hQ b; have := z2 b; omega
        have gR : Good Z3 H1 R := g4.le fun b => Nat.le_add_right _ _
        have g5 : Good (frz Z3 R R5) H1 (fun b => (R3 b + S3 b) + R5 b) := (show Good Z3 H1 (fun b => (R3 b + S3 b) + R b) from g4.eq fun b => Nat.add_comm _ _).hold (Tr.frz gR l5) (gR.frz l5)
        have k5 : ∀ {U : Ft}, Kp Z3 (frz Z3 R R5) H1 H1 U := .same fun a z => .inl z
        have rn := (r4.keep _ k5).snoc q1
        have g6 : Good (frz Z3 R R5) H1 (fun b => (f1 a0 b + (R4 b + Q1 b)) + S3 b) := g5.eq fun b => by have := hR b; have := eQ b; show R3 b + S3 b + R5 b = f1 a0 b + (R4 b + Q1 b) + S3 b; omega
        have s5 : Sit X.K T (frz Z3 R R5) H1 S3 σ (ρ1.set i none) := ⟨s3.sl.keep k5, g6.le fun b => Nat.le_add_left _ _, s3.tb⟩
        obtain ⟨s7, t7⟩ := write_list (ds := ds ++ [dk.1]) (ws := ws ++ [v]) s5 g6 rn (get_set_none e2) ev0
        have tq : Tr Z H S (frz Z3 R R5) H1 (fun b => (f1 a0 b + (R4 b + Q1 b)) + S3 b) :=
          (t1.trans ((t3.hold R).trans (((Tr.frz gR l5).hold (fun b => R3 b + S3 b)).from fun b => by show R3 b + S3 b + R b ≤ R b + (R3 b + S3 b); omega))).le fun b => by
            have := hR b; have := eQ b; show f1 a0 b + (R4 b + Q1 b) + S3 b ≤ R3 b + S3 b + R5 b; omega
        refine ⟨a0, ws, v, rfl, rfl, hH, ?_, h σ _ _ _ s7 (tq.trans t7) .refl⟩
        rw [r4.len, sizeLine_eq]
        omega
      · exact h.elim
    · exact h.elim
end
end Em
set_option Elab.async false
set_option linter.all false
set_option maxRecDepth 100000
set_option maxHeartbeats 4000000
/-! Em 8: raise, the bodies of defs, loops, comprehensions. -/
namespace Em
open PySem L2 PyProof.Rows

/-! ### raise X() -/
/-- an exception class of the text over ValueError -/
structure Ec (K : PySem.W.Frag) (mg : Str → Option Value) (x : Str) (C : Addr) : Prop where
  g : mg x = some (.ref C)
  xi : PySem.W.excIn K C [.type "ValueError", .type "Exception", .type "BaseException", .type "object"] "ValueError.__new__" = true
  kp : PySem.W.keepIn K (.ref C) = true
  sb : PySem.W.subIn K (.ref C) (.type "BaseException") = some true
  ty : PySem.W.typeIn K (.ref C) = some (.type "type")
theorem pmk0 {X : Cx} {C : Addr} {x : Str} {p pos : Pos} (E : Ec X.K X.mg x C) (hg : Gl X x) (hdb : (x == ("__debug__" : Str)) = false := by decide) :
    PMk X (.Call (.Name x p) [] [] pos) (fun _ H Q => Q (.ref C) none H) := by
  intro pins s σ H Q I h
  refine wpAny_Call_Name_kw (ld_glob I hg E.g ?_ hdb)
  refine PySem.W.callWith_K0 I.kIn E.kp ?_
  show wpAny _ _ (call (.ref C) []) _ _ _
  obtain ⟨bm, N, nm, qn, bs, hdct, sn, sub, ab, col, dd, k0, k1, k2, k3, k5, mN, hC, hN, hni, T⟩ := exc_obj I.kIn E.xi
  refine wpAny_call_exc_subT PySem.F.excBase_ValueError T hC hN hni (fun h' e hm => ?_) (Nat.zero_le _)
  exact mk_of I hm (raises_own E.sb E.ty) h (I.hok.gone hm.new)
def raiseS (x : Str) : MS := fun _ => .ex x
theorem ss_raise {X : Cx} {T : List (Addr × Str)} {W : Wsh} {pn : Bool} {x : Str} {C : Addr} {p pos pos' : Pos} (hc : X.calm = true) (tk : Tk X W) (E : Ec X.K X.mg x C) (hg : Gl X x) (hdb : (x == ("__debug__" : Str)) = false := by decide) :
    SS X T W pn (.Raise (some (.Call (.Name x p) [] [] pos')) none pos) (raiseS x) := by
  refine PS.imp (ps_raise hc tk (pmk0 E hg hdb)) fun D σ H h => ?_
  obtain ⟨Z, S, ρ, sit, h⟩ := h
  exact ⟨rfl, h C H E.g sit.tb ⟨fun a o e _ _ => e, fun _ n => n⟩⟩

/-! ### the bodies of defs -/
def entry (N : Nat) (ds : List VD) : En := ds.map some ++ List.replicate (N - ds.length) none
def runP (N : Nat) (m : MS) (ds : List D) : FR := match m (entry N (ds.map fun d => (d, 0))) with
  | .nx _ => .ok (.non, 0)
  | .rt dk _ => .ok dk
  | .ex x => .ex x
  | _ => .no
def runI (N : Nat) (m : MS) (d0 : D) (ds : List D) : FI := match m (entry N ((d0, 1) :: ds.map fun d => (d, 0))) with
  | .nx ρ => (match ρ[0]? with | some (some (d1, _ + 1)) => .ok (.non, 0) d1 | _ => .no)
  | .rt dk ρ => (match ρ[0]? with | some (some (d1, _ + 1)) => .ok dk d1 | _ => .no)
  | .ex x => .ex x
  | _ => .no
section
variable {P : Program} {w : World} {K : PySem.W.Frag} {mg : Str → Option Value} {base : Heap} {T : List (Addr × Str)} {Z : Addr → Prop} {H : Hp}
theorem slots_none : ∀ c : Nat, Slots K Z H (List.replicate c none) (List.replicate c none) (fun _ => 0)
  | 0 => by simp only [List.replicate_zero]; unfold Slots; exact fun _ => rfl
  | c + 1 => by simp only [List.replicate_succ]; unfold Slots; exact slots_none c
theorem slots_entry : ∀ {ds : List D} {vs : List V} (c : Nat), Reps K Z H ds 0 vs (fun _ => 0) → Slots K Z H (vs.map some ++ List.replicate c none) ((ds.map fun d => (d, 0)).map some ++ List.replicate c none) (fun _ => 0)
  | [], vs, c, h => by
    unfold Reps at h
    obtain ⟨rfl, _⟩ := h
    exact slots_none c
  | d :: ds, vs, c, h => by
    unfold Reps at h
    obtain ⟨v, r, S1, S2, rfl, h1, h2, _⟩ := h
    simp only [List.map_cons, List.cons_append]
    unfold Slots
    exact ⟨fun _ => 0, fun _ => 0, rep_ft h1 (Rep.zero _ h1), slots_entry c (reps_ft h2 (Reps.zero _ h2)), fun _ => rfl⟩
theorem fn_P {x qual : Str} {st : Stmt} {f : Addr} {fd : FuncData} {N ps : List Str} {k n : Nat} {m : MS} (F : Fun K x qual st f fd) (Sc : FnScope N ps (defScope st)) (hn : ps.length = n) (hm : mg x = some (.ref f))
    (hb : L2.Binds K fd ps [])
    (body : ∀ (cdv : Value) (A : Around) (outer : List Env) (s : Shared) (H : Hp) (E : XK) (W : Wsh), Room k (A.deeper (envOfC qual (defScope st) s.heap.objs.size f cdv)) →
      Tk (cxOf (L2.CX P w) P w K mg base N qual (defScope st) f cdv A outer s H E) W → SSs (cxOf (L2.CX P w) P w K mg base N qual (defScope st) f cdv A outer s H E) T W false (defBody st) m) :
    Fn P w K mg base (k + 1) x (spP K T mg n (runP N.length m)) := by
  refine ⟨f, fd, ps, hm, F.kp, hb, F.okX Sc (fun vs H Q E h => ?_) (fun cdv A outer s H vs Q E hr h => ?_)⟩
  · obtain ⟨Z, ds, hl, _, r, _⟩ := h
    rw [r.len, hl, hn]
  · obtain ⟨Z, ds, hl, g, r, tb, h⟩ := h
    refine ⟨_, body cdv A outer s H E (fun C H' => E C none H') hr ((takes_of rfl rfl rfl rfl).imp fun c d σ H h => by obtain ⟨rfl, h⟩ := h; exact h), Z, fun _ => 0, entry N.length (ds.map fun d => (d, 0)), ⟨?_, g, tb⟩, ?_⟩
    · unfold L2.start entry
      rw [List.length_map, ← r.len]
      exact slots_entry _ r
    · unfold runP at h
      cases e : m (entry N.length (ds.map fun d => (d, 0))) with
      | nx ρ =>
        rw [e] at h
        exact fun σ' H' Z' S' s t p => h .non H' Z' (fun _ => 0) s.tb (rep_at rfl _ fun _ => rfl) (s.gd.le fun b => Nat.zero_le _) (t.le fun b => Nat.zero_le _)
      | rt dk ρ =>
        rw [e] at h
        exact fun σ' v H' Z' R S' s r g t p => h v H' Z' R s.tb r (g.le fun b => Nat.le_add_right _ _) (t.le fun b => Nat.le_add_right _ _)
      | ex x => rw [e] at h; exact h
      | bk ρ => rw [e] at h; exact h.elim
      | ct ρ => rw [e] at h; exact h.elim
      | no => rw [e] at h; exact h.elim
theorem fn_I {x qual : Str} {st : Stmt} {f : Addr} {fd : FuncData} {N ps : List Str} {k n : Nat} {m : MS} (F : Fun K x qual st f fd) (Sc : FnScope N ps (defScope st)) (hn : ps.length = n + 1) (hm : mg x = some (.ref f))
    (hb : L2.Binds K fd ps [])
    (body : ∀ (cdv : Value) (A : Around) (outer : List Env) (s : Shared) (H : Hp) (E : XK) (W : Wsh), Room k (A.deeper (envOfC qual (defScope st) s.heap.objs.size f cdv)) →
      Tk (cxOf (L2.CX P w) P w K mg base N qual (defScope st) f cdv A outer s H E) W → SSs (cxOf (L2.CX P w) P w K mg base N qual (defScope st) f cdv A outer s H E) T W true (defBody st) m) :
    Fn P w K mg base (k + 1) x (spI K T mg n (runI N.length m)) := by
  refine ⟨f, fd, ps, hm, F.kp, hb, F.okX Sc (fun vs H Q E h => ?_) (fun cdv A outer s H vs Q E hr h => ?_)⟩
  · obtain ⟨Z, S, d0, v0, ds, vr, rfl, hl, _, r0, r, _⟩ := h
    rw [List.length_cons, r.len, hl, hn]
  · obtain ⟨Z, S, d0, v0, ds, vr, rfl, hl, g, r0, r, tb, h⟩ := h
    refine ⟨_, body cdv A outer s H E (fun C H' => E C none H') hr ((takes_of rfl rfl rfl rfl).imp fun c d σ H h => by obtain ⟨rfl, h⟩ := h; exact h), Z, S, entry N.length ((d0, 1) :: ds.map fun d => (d, 0)), ⟨?_, g, tb⟩, ?_⟩
    · unfold L2.start entry
      rw [List.length_cons, List.length_cons, List.length_map, ← r.len]
      simp only [List.map_cons, List.cons_append]
      unfold Slots
      exact ⟨S, fun _ => 0, r0, slots_entry _ r, fun _ => rfl⟩
    · unfold runI at h
      have st0 : ∀ σ' : L2.St, Pin true (L2.start N (v0 :: vr)) σ' → σ'[0]? = some (some v0) := fun σ' p => (p rfl).trans rfl
      -- slot 0 at the end
      have fin : ∀ {σ' : L2.St} {H' : Hp} {Z' : Addr → Prop} {S' R : Ft} {ρ : En} {d1 : D} {k1 : Nat} {v : V} {dk : VD}, Sit K T Z' H' S' σ' ρ → Pin true (L2.start N (v0 :: vr)) σ' → ρ[0]? = some (some (d1, k1 + 1)) → Rep K Z' H' dk.1 dk.2 v R → Good Z' H' (fun b => R b + S' b) →
          Tr Z H S Z' H' (fun b => R b + S' b) → (∀ (v : V) (H' : Hp) (Z' : Addr → Prop) (R S' : Ft), LamX.Tabs T H' → Rep K Z' H' dk.1 dk.2 v R → Rep K Z' H' d1 1 v0 S' → Good Z' H' (fun b => R b + S' b) → Tr Z H S Z' H' (fun b => R b + S' b) → Q v H') → Q v H' := by
        intro σ' H' Z' S' R ρ d1 k1 v dk s p e rv gv tv hq
        obtain ⟨v1, Z2, R1, S2, ev, r1, s2, g2, t2⟩ := sit_take (j := 1) s e (Nat.succ_le_succ (Nat.zero_le _))
        rw [st0 σ' p] at ev
        cases ev
        have g3 := gv.hold t2 g2
        exact hq v H' Z2 R R1 s2.tb (rv.keep _ (gv.kp t2)) r1 (g3.le fun b => by show R b + R1 b ≤ R b + (R1 b + S2 b); omega) ((tv.trans (t2.hold R)).le fun b => by show R b + R1 b ≤ R b + (R1 b + S2 b); omega)
      cases e : m (entry N.length ((d0, 1) :: ds.map fun d => (d, 0))) with
      | nx ρ =>
        rw [e] at h
        dsimp only at h
        intro σ' H' Z' S' s t p
        cases e2 : ρ[0]? with
        | none => rw [e2] at h; exact h.elim
        | some o =>
          cases o with
          | none => rw [e2] at h; exact h.elim
          | some dk1 =>
            obtain ⟨d1, k1⟩ := dk1
            cases k1 with
            | zero => rw [e2] at h; exact h.elim
            | succ k1 => rw [e2] at h; exact fin (dk := (.non, 0)) s p e2 (rep_at rfl _ fun _ => rfl) s.good0 (t.eq fun b => by simp) h
      | rt dk ρ =>
        rw [e] at h
        dsimp only at h
        intro σ' v H' Z' R S' s r g t p
        cases e2 : ρ[0]? with
        | none => rw [e2] at h; exact h.elim
        | some o =>
          cases o with
          | none => rw [e2] at h; exact h.elim
          | some dk1 =>
            obtain ⟨d1, k1⟩ := dk1
            cases k1 with
            | zero => rw [e2] at h; exact h.elim
            | succ k1 => rw [e2] at h; exact fin s p e2 r g t h
      | ex x => rw [e] at h; exact h
      | bk ρ => rw [e] at h; exact h.elim
      | ct ρ => rw [e] at h; exact h.elim
      | no => rw [e] at h; exact h.elim
end

/-! ### what is walked -/
/-- J gives just these, frozen; what it makes is new -/
structure Wk (K : PySem.W.Frag) (Z : Addr → Prop) (H : Hp) (J : It) (ds : List D) : Prop where
  go : ∀ (i : Nat) (Z' : Addr → Prop) (H' : Hp), i < ds.length → Kp Z Z' H H' (fun _ => 0) → J.go i H'
  yld : ∀ (i : Nat) (d : D) (Z' : Addr → Prop) (H' : Hp) (x : V) (H'' : Hp), ds[i]? = some d → Kp Z Z' H H' (fun _ => 0) → J.yld i H' x H'' →
    (∀ a o, H' a = some o → H'' a = some o) ∧ Rep K Z' H'' d 0 x (fun _ => 0)
  stop : ∀ (Z' : Addr → Prop) (H' : Hp), Kp Z Z' H H' (fun _ => 0) → J.stop ds.length H'
def tI (K : PySem.W.Frag) (T : List (Addr × Str)) (mg : Str → Option Value) (W : Wsh) (f : M (List D)) : TI := fun σ H R => ∃ (Z : Addr → Prop) (S : Ft) (ρ : En), Sit K T Z H S σ ρ ∧ match f ρ with
  | .ok ds ρ' => ∀ (J : It) (H' : Hp) (Z' : Addr → Prop) (S' : Ft), Sit K T Z' H' S' σ ρ' → Tr Z H S Z' H' S' → Wk K Z' H' J ds → R J H'
  | .ex x => Xo T mg W x H S
  | .no => False
abbrev DI (X : Cx) (T : List (Addr × Str)) (W : Wsh) (tg iter : Expr) (f : M (List D)) : Prop := PI X tg iter (tI X.K T X.mg W f)
theorem PI.imp {X : Cx} {tg e : Expr} {t t' : TI} (h : PI X tg e t) (i : ∀ σ H R, t' σ H R → t σ H R) : PI X tg e t' := ⟨fun pins s σ H R I q => h.run pins s σ H R I (i σ H R q)⟩
theorem PI.or {X : Cx} {tg e : Expr} {t t' : TI} (h : PI X tg e t) (h' : PI X tg e t') : PI X tg e (fun σ H R => t σ H R ∨ t' σ H R) := ⟨fun pins s σ H R I q => q.elim (h.run pins s σ H R I) (h'.run pins s σ H R I)⟩
def seqM (f : M VD) : M (List D) := fun ρ => match f ρ with
  | .ok (.lst ds, _) ρ1 => .ok ds ρ1
  | .ok (.tup ds, _) ρ1 => .ok ds ρ1
  | .ok _ _ => .no
  | .ex x => .ex x
  | .no => .no
def rngD (lo : Int) (n : Nat) : List D := (List.range n).map fun (i : Nat) => .int (lo + (i : Int))
def rng1O : List VD → Option (List D)
  | [(.int n, _)] => if n ≤ 1000000000 ∧ -1000000000 ≤ n then some (rngD 0 n.toNat) else none
  | _ => none
def rng2O : List VD → Option (List D)
  | [(.int a, _), (.int b, _)] => if -1000000000 ≤ a ∧ a ≤ 1000000000 ∧ -1000000000 ≤ b ∧ b ≤ 1000000000 then some (rngD a (b - a).toNat) else none
  | _ => none
def enumO : List VD → Option (List D)
  | [(.lst ds, _)] => some (ds.mapIdx fun i d => .tup [.int i, d])
  | [(.tup ds, _)] => some (ds.mapIdx fun i d => .tup [.int i, d])
  | _ => none
def zipO : List VD → Option (List D)
  | [(.lst ds, _), (.lst es, _)] => some (List.zipWith (fun d e => .tup [d, e]) ds es)
  | [(.tup ds, _), (.tup es, _)] => some (List.zipWith (fun d e => .tup [d, e]) ds es)
  | [(.lst ds, _), (.tup es, _)] => some (List.zipWith (fun d e => .tup [d, e]) ds es)
  | [(.tup ds, _), (.lst es, _)] => some (List.zipWith (fun d e => .tup [d, e]) ds es)
  | _ => none
def opI (o : List VD → Option (List D)) (f : M (List VD)) : M (List D) := fun ρ => match f ρ with
  | .ok ds ρ1 => (match o ds with | some r => .ok r ρ1 | none => .no)
  | .ex x => .ex x
  | .no => .no
theorem Kp.zero {Z Z' : Addr → Prop} {H H' : Hp} {S : Ft} (k : Kp Z Z' H H' S) : Kp Z Z' H H' (fun _ => 0) := k.le fun _ => Nat.zero_le _
theorem wk_list {K : PySem.W.Frag} {Z : Addr → Prop} {H : Hp} {a : Addr} {vs : List V} {ds : List D} (h : Z a) (hH : H a = some (.lst vs)) (r : Reps K Z H ds 0 vs (fun _ => 0)) : Wk K Z H (Itl K a) ds := by
  have at' : ∀ {Z' H'}, Kp Z Z' H H' (fun _ => 0) → H' a = some (.lst vs) := fun k => k.h a _ hH (.inr (.inl h)) (fun _ z => by cases z)
  refine ⟨fun i Z' H' hi k => ?_, fun i d Z' H' x H'' hd k y => ?_, fun Z' H' k => ⟨vs, .of (at' k), by rw [r.len]; exact Nat.le_refl _⟩⟩
  · have hi' : i < vs.length := by rw [r.len]; exact hi
    exact ⟨vs, vs[i], .of (at' k), List.getElem?_eq_getElem hi'⟩
  · obtain ⟨rfl, y⟩ := y
    obtain ⟨v, e1, rv⟩ := (Reps.keep _ r k).get0 hd
    have := y vs (.of (at' k))
    rw [e1] at this
    cases this
    exact ⟨fun _ _ e => e, rv⟩
theorem wk_tup {K : PySem.W.Frag} {Z : Addr → Prop} {H : Hp} {a : Addr} {vs : List V} {ds : List D} (hs : SqT K H a vs) (r : Reps K Z H ds 0 vs (fun _ => 0)) : Wk K Z H (Itt K a) ds := by
  have at' : ∀ {Z' H'}, Kp Z Z' H H' (fun _ => 0) → SqT K H' a vs := fun k => sqT_keep k hs
  refine ⟨fun i Z' H' hi k => ?_, fun i d Z' H' x H'' hd k y => ?_, fun Z' H' k => ⟨vs, at' k, by rw [r.len]; exact Nat.le_refl _⟩⟩
  · have hi' : i < vs.length := by rw [r.len]; exact hi
    exact ⟨vs, vs[i], at' k, List.getElem?_eq_getElem hi'⟩
  · obtain ⟨rfl, y⟩ := y
    obtain ⟨v, e1, rv⟩ := (Reps.keep _ r k).get0 hd
    have := y vs (at' k)
    rw [e1] at this
    cases this
    exact ⟨fun _ _ e => e, rv⟩
theorem wk_range {K : PySem.W.Frag} {Z : Addr → Prop} {H : Hp} (lo : Int) (n : Nat) : Wk K Z H (Itr lo n) (rngD lo n) := by
  unfold rngD
  refine ⟨fun i Z' H' hi k => ?_, fun i d Z' H' x H'' hd k y => ?_, fun Z' H' k => ?_⟩
  · show i < n
    simpa using hi
  · obtain ⟨rfl, rfl⟩ := y
    rw [List.getElem?_map] at hd
    cases e : (List.range n)[i]? with
    | none => rw [e] at hd; cases hd
    | some j =>
      rw [e] at hd
      cases hd
      have hj : j = i := by
        obtain ⟨h1, h2⟩ := List.getElem?_eq_some_iff.mp e
        simp at h2; exact h2.symm
      subst hj
      exact ⟨fun _ _ e => e, rep_at rfl 0 fun _ => rfl⟩
  · show n ≤ _
    simp
section
variable {X : Cx} {T : List (Addr × Str)} {W : Wsh} {a b c e tg : Expr} {f g : M VD} {fs : M (List VD)} {pos p : Pos} {x : Str}
/-- one value frozen behind a reading -/
theorem frozen1 {K : PySem.W.Frag} {σ : L2.St} {ρ : En} {dk : VD} {v : V} {Z Z1 : Addr → Prop} {H H1 : Hp} {S S1 R : Ft} (s1 : Sit K T Z1 H1 S1 σ ρ) (r1 : Rep K Z1 H1 dk.1 dk.2 v R) (g1 : Good Z1 H1 (fun b => R b + S1 b)) (t1 : Tr Z H S Z1 H1 (fun b => R b + S1 b)) :
    ∃ Z2, Sit K T Z2 H1 S1 σ ρ ∧ Rep K Z2 H1 dk.1 0 v (fun _ => 0) ∧ Tr Z H S Z2 H1 S1 ∧ ∀ a, Z1 a → Z2 a := by
  have rk : Repk K Z1 H1 [dk] [v] R := by
    unfold Repk
    exact ⟨v, [], R, fun _ => 0, rfl, r1, by unfold Repk; exact ⟨rfl, fun _ => rfl⟩, fun _ => rfl⟩
  obtain ⟨w, Z', ew, r0, g', t'⟩ := one_frozen rk (g1.le fun b => Nat.le_add_right _ _)
  cases ew
  have gs : Good Z1 H1 (fun b => S1 b + R b) := g1.eq fun b => Nat.add_comm _ _
  have gq := gs.hold t' g'
  exact ⟨Z', s1.kept (gs.kp t') (gq.le fun b => Nat.le_add_right _ _) s1.tb, r0, (t1.trans ((t'.hold S1).from fun b => by show S1 b + R b ≤ R b + S1 b; omega)).eq fun b => Nat.add_zero _, t'.zz⟩
theorem frozenL {K : PySem.W.Frag} {σ : L2.St} {ρ : En} {ds : List VD} {vs : List V} {Z Z1 : Addr → Prop} {H H1 : Hp} {S S1 R : Ft} (s1 : Sit K T Z1 H1 S1 σ ρ) (r1 : Repk K Z1 H1 ds vs R) (g1 : Good Z1 H1 (fun b => R b + S1 b)) (t1 : Tr Z H S Z1 H1 (fun b => R b + S1 b)) :
    ∃ Z2, Sit K T Z2 H1 S1 σ ρ ∧ Reps K Z2 H1 (ds.map (·.1)) 0 vs (fun _ => 0) ∧ Tr Z H S Z2 H1 S1 := by
  obtain ⟨r0, g', t'⟩ := r1.freeze (g1.le fun b => Nat.le_add_right _ _)
  have gs : Good Z1 H1 (fun b => S1 b + R b) := g1.eq fun b => Nat.add_comm _ _
  have gq := gs.hold t' g'
  exact ⟨_, s1.kept (gs.kp t') (gq.le fun b => Nat.le_add_right _ _) s1.tb, r0, (t1.trans ((t'.hold S1).from fun b => by show S1 b + R b ≤ R b + S1 b; omega)).eq fun b => Nat.add_zero _⟩
theorem di_seq (he : DE X T W e f) : DI X T W tg e (seqM f) := by
  refine PI.imp (PI.or (pi_list he) (pi_tup he)) fun σ H R h => ?_
  obtain ⟨Z, S, ρ, sit, h⟩ := h
  unfold seqM at h
  cases e1 : f ρ with
  | no => rw [e1] at h; exact .inl ⟨Z, S, ρ, sit, by rw [e1]; exact h⟩
  | ex x => rw [e1] at h; exact .inl ⟨Z, S, ρ, sit, by rw [e1]; exact h⟩
  | ok dk ρ1 =>
    obtain ⟨d, k⟩ := dk
    rw [e1] at h
    cases d with
    | lst ds =>
      refine .inl ⟨Z, S, ρ, sit, ?_⟩
      rw [e1]
      intro v H1 Z1 R1 S1 s1 r1 g1 t1
      obtain ⟨Z2, s2, r2, t2, _⟩ := frozen1 s1 r1 g1 t1
      simp only [Rep] at r2
      obtain ⟨a, vs, rfl, ⟨za, hH⟩, rs⟩ := r2
      exact ⟨a, rfl, ⟨_, .of hH⟩, h _ H1 Z2 S1 s2 t2 (wk_list za hH rs)⟩
    | tup ds =>
      refine .inr ⟨Z, S, ρ, sit, ?_⟩
      rw [e1]
      intro v H1 Z1 R1 S1 s1 r1 g1 t1
      obtain ⟨Z2, s2, r2, t2, _⟩ := frozen1 s1 r1 g1 t1
      obtain ⟨a, vs, rfl, hs, rs⟩ := rep_tup0 r2
      exact ⟨a, rfl, ⟨_, hs⟩, h _ H1 Z2 S1 s2 t2 (wk_tup hs rs)⟩
    | _ => exact h.elim
theorem di_range1 (hg : Gl X "range") (hm : X.mg "range" = none) (ha : DA X T W [a] fs) (hs : starEach [a] X.env = [(false, eval a X.env)] := by rfl) : DI X T W tg (.Call (.Name "range" p) [a] [] pos) (opI rng1O fs) := by
  refine PI.imp (pi_range1 hg hm ha hs) fun σ H R h => ?_
  obtain ⟨Z, S, ρ, sit, h⟩ := h
  refine ⟨Z, S, ρ, sit, ?_⟩
  unfold opI at h
  cases e1 : fs ρ with
  | no => rw [e1] at h; exact h
  | ex x => rw [e1] at h; exact h
  | ok ds ρ1 =>
    rw [e1] at h
    intro vs H1 Z1 R1 S1 s1 r1 g1 t1
    cases e2 : rng1O ds with
    | none => simp only [e2] at h
    | some res =>
      simp only [e2] at h
      unfold rng1O at e2
      split at e2
      · rename_i n k
        split at e2
        · rename_i hb
          cases e2
          obtain ⟨Z2, s2, r2, t2⟩ := frozenL s1 r1 g1 t1
          obtain ⟨v, rfl⟩ := repk1 r1
          have := reps1 r2
          simp only [Rep] at this
          obtain ⟨rfl, _⟩ := this
          exact ⟨n, rfl, by omega, by omega, h _ H1 Z2 S1 s2 t2 (wk_range 0 n.toNat)⟩
        · cases e2
      · cases e2
theorem di_range2 (hg : Gl X "range") (hm : X.mg "range" = none) (ha : DA X T W [a, b] fs) (hs : starEach [a, b] X.env = [(false, eval a X.env), (false, eval b X.env)] := by rfl) (hs2 : starEach [b] X.env = [(false, eval b X.env)] := by rfl) : DI X T W tg (.Call (.Name "range" p) [a, b] [] pos) (opI rng2O fs) := by
  refine PI.imp (pi_range2 hg hm ha hs hs2) fun σ H R h => ?_
  obtain ⟨Z, S, ρ, sit, h⟩ := h
  refine ⟨Z, S, ρ, sit, ?_⟩
  unfold opI at h
  cases e1 : fs ρ with
  | no => rw [e1] at h; exact h
  | ex x => rw [e1] at h; exact h
  | ok ds ρ1 =>
    rw [e1] at h
    intro vs H1 Z1 R1 S1 s1 r1 g1 t1
    cases e2 : rng2O ds with
    | none => simp only [e2] at h
    | some res =>
      simp only [e2] at h
      unfold rng2O at e2
      split at e2
      · rename_i lo k hi k2
        split at e2
        · rename_i hb
          cases e2
          obtain ⟨Z2, s2, r2, t2⟩ := frozenL s1 r1 g1 t1
          obtain ⟨v, w, rfl⟩ := repk2 r1
          obtain ⟨q1, q2⟩ := reps2 r2
          simp only [Rep] at q1 q2
          obtain ⟨rfl, _⟩ := q1
          obtain ⟨rfl, _⟩ := q2
          exact ⟨lo, hi, rfl, ⟨by omega, by omega, by omega, by omega⟩, h _ H1 Z2 S1 s2 t2 (wk_range lo _)⟩
        · cases e2
      · cases e2
end

/-! ### for -/
def forL (t : D → En → Option En) (m : MS) : List D → MS
  | [], ρ => .nx ρ
  | d :: r, ρ => match t d ρ with
    | some ρ1 => (match m ρ1 with
      | .nx ρ2 => forL t m r ρ2
      | .ct ρ2 => forL t m r ρ2
      | .bk ρ2 => .nx ρ2
      | .rt dk ρ2 => .rt dk ρ2
      | .ex x => .ex x
      | .no => .no)
    | none => .no
def forS (f : M (List D)) (t : D → En → Option En) (m : MS) : MS := fun ρ => match f ρ with
  | .ok ds ρ1 => forL t m ds ρ1
  | .ex x => .ex x
  | .no => .no
def whileL (c : M Bool) (m : MS) : Nat → MS
  | 0, _ => .no
  | n + 1, ρ => match c ρ with
    | .ok true ρ1 => (match m ρ1 with
      | .nx ρ2 => whileL c m n ρ2
      | .ct ρ2 => whileL c m n ρ2
      | .bk ρ2 => .nx ρ2
      | .rt dk ρ2 => .rt dk ρ2
      | .ex x => .ex x
      | .no => .no)
    | .ok false ρ1 => .nx ρ1
    | .ex x => .ex x
    | .no => .no
section
variable {X : Cx} {T : List (Addr × Str)} {W : Wsh} {pn : Bool} {tg iter c : Expr} {body : List Stmt} {pos : Pos} {m : MS} {t : D → En → Option En} {fi : M (List D)}
theorem ext_kp {Z : Addr → Prop} {H H' : Hp} {S : Ft} (h : ∀ a o, H a = some o → H' a = some o) : Kp Z Z H H' S := ⟨fun _ z => z, fun a o e _ _ => h a o e⟩
theorem ext_tr {Z : Addr → Prop} {H H' : Hp} {S : Ft} (h : ∀ a o, H a = some o → H' a = some o) : Tr Z H S Z H' S := ⟨fun _ z => z, fun a o e _ _ => h a o e, fun _ _ => Nat.le_refl _, fun _ _ z => .inl z, fun a n => by
  cases e : H a with
  | none => exact absurd e n
  | some o => rw [h a o e]; simp⟩
theorem ext_good {Z : Addr → Prop} {H H' : Hp} {S : Ft} (g : Good Z H S) (h : ∀ a o, H a = some o → H' a = some o) : Good Z H' S := ⟨g.one, g.nz, fun b z => by
  cases e : H b with
  | none => exact absurd e (g.zd b z)
  | some o => rw [h b o e]; simp, fun b p => by
  obtain ⟨o, e, m⟩ := g.mt b p
  exact ⟨o, h b o e, m⟩⟩
theorem ext_sit {K : PySem.W.Frag} {σ : L2.St} {ρ : En} {Z : Addr → Prop} {H H' : Hp} {S : Ft} (s : Sit K T Z H S σ ρ) (h : ∀ a o, H a = some o → H' a = some o) : Sit K T Z H' S σ ρ := ⟨s.sl.keep (ext_kp h), ext_good s.gd h, s.tb.ext h⟩
theorem Tr.kp0 {Z Z' : Addr → Prop} {H H' : Hp} {S S' : Ft} (g : Good Z H S) (t : Tr Z H S Z' H' S') : Kp Z Z' H H' (fun _ => 0) :=
  (show Good Z H (fun b => (fun _ => 0) b + S b) from g.eq fun b => by simp).kp t
theorem ss_for (hp : PassesOwn (model X.prog X.w) X.A X.env X.xe) (hc : X.calm = true) (hi : DI X T W tg iter fi) (hg : DG X T pn tg t) (hb : SSs X T W pn body m) (hs : ∀ x, foldedSetIterable iter X.env x = pure x := by intro _; rfl) :
    SS X T W pn (.For tg iter body [] pos) (forS fi t m) := by
  refine PS.imp (ps_for hp hc hi hg hb hs) fun D σ H h => ?_
  obtain ⟨Z, S, ρ, sit, h⟩ := h
  refine ⟨Z, S, ρ, sit, ?_⟩
  unfold forS at h
  cases e1 : fi ρ with
  | no => rw [e1] at h; exact h
  | ex x => rw [e1] at h; exact h
  | ok ds ρ1 =>
    rw [e1] at h
    dsimp only at h
    generalize hfin : forL t m ds ρ1 = fin at h
    intro J H1 Z1 S1 s1 t1 wk
    refine ⟨fun i k σ' H' => k = ds.length - i ∧ i ≤ ds.length ∧ ∃ (Z' : Addr → Prop) (S' : Ft) (ρ' : En), Sit X.K T Z' H' S' σ' ρ' ∧ Tr Z1 H1 S1 Z' H' S' ∧ Pin pn σ σ' ∧ forL t m (ds.drop i) ρ' = fin,
      ⟨ds.length, by simp, Nat.zero_le _, Z1, S1, ρ1, s1, Tr.refl (fun b => Nat.le_refl _), .refl, hfin⟩, ?_⟩
    rintro i k σ' H' ⟨rfl, hi, Z', S', ρ', s', t', p', eq⟩
    have kp := Tr.kp0 s1.gd t'
    by_cases hlt : i < ds.length
    · refine .inr ⟨wk.go i Z' H' hlt kp, fun σ2 H2 => i < ds.length ∧ ∃ (Z2 : Addr → Prop) (S2 : Ft) (ρ2 : En), Sit X.K T Z2 H2 S2 σ2 ρ2 ∧ Tr Z1 H1 S1 Z2 H2 S2 ∧ Pin pn σ σ2 ∧ forL t m (ds.drop (i + 1)) ρ2 = fin,
        fun σ2 H2 hN => ⟨ds.length - (i + 1), by omega, rfl, hN.1, hN.2⟩, fun x H'' y => ?_⟩
      have hd : ds[i]? = some ds[i] := List.getElem?_eq_getElem hlt
      obtain ⟨hx, rx⟩ := wk.yld i _ Z' H' x H'' hd kp y
      have s'' := ext_sit s' hx
      have edrop : ds.drop i = ds[i] :: ds.drop (i + 1) := List.drop_eq_getElem_cons hlt
      rw [edrop] at eq
      unfold forL at eq
      rw [← eq] at h
      cases e2 : t ds[i] ρ' with
      | none => rw [e2] at h; exact h.elim
      | some ρ2 =>
        rw [e2] at h eq
        dsimp only at h eq
        refine ⟨Z', S', ρ', ρ2, ds[i], s'', rx, e2, fun σ3 S3 s3 l3 p3 => ⟨Z', S3, ρ2, s3, ?_⟩⟩
        have tt : Tr Z1 H1 S1 Z' H'' S3 := (t'.trans (ext_tr hx)).le l3
        have pp := p'.trans p3
        cases e3 : m ρ2 with
        | nx ρ3 =>
          rw [e3] at eq
          exact fun σ4 H4 Z4 S4 s4 t4 p4 => ⟨hlt, Z4, S4, ρ3, s4, tt.trans t4, pp.trans p4, eq⟩
        | ct ρ3 =>
          rw [e3] at eq
          exact fun σ4 H4 Z4 S4 s4 t4 p4 => ⟨hlt, Z4, S4, ρ3, s4, tt.trans t4, pp.trans p4, eq⟩
        | bk ρ3 =>
          rw [e3] at h
          exact fun σ4 H4 Z4 S4 s4 t4 p4 => h σ4 H4 Z4 S4 s4 (t1.trans (tt.trans t4)) (pp.trans p4)
        | rt dk ρ3 =>
          rw [e3] at h
          exact fun σ4 v H4 Z4 R4 S4 s4 r4 g4 t4 p4 => h σ4 v H4 Z4 R4 S4 s4 r4 g4 (t1.trans (tt.trans t4)) (pp.trans p4)
        | ex x =>
          rw [e3] at h
          exact fun C H4 hm ht hx => h C H4 hm ht ((t1.trans tt).thenX hx fun x => Nat.le_refl _)
        | no => rw [e3] at h; exact h.elim
    · have e : i = ds.length := by omega
      subst e
      refine .inl ⟨wk.stop Z' H' kp, ?_⟩
      rw [List.drop_length] at eq
      rw [← eq] at h
      exact h σ' H' Z' S' s' (t1.trans t') p'
theorem ss_while (n : Nat) {tc : M Bool} (hp : PassesOwn (model X.prog X.w) X.A X.env X.xe) (hc : DT X T W c tc) (hb : SSs X T W pn body m) : SS X T W pn (.While c body [] pos) (whileL tc m n) := by
  refine PS.imp (ps_while hp hc hb) fun D σ H h => ?_
  obtain ⟨Z, S, ρ, sit, h⟩ := h
  generalize hfin : whileL tc m n ρ = fin at h
  refine ⟨fun k σ' H' => ∃ (Z' : Addr → Prop) (S' : Ft) (ρ' : En), Sit X.K T Z' H' S' σ' ρ' ∧ Tr Z H S Z' H' S' ∧ Pin pn σ σ' ∧ whileL tc m k ρ' = fin, ⟨n, Z, S, ρ, sit, Tr.refl (fun b => Nat.le_refl _), .refl, hfin⟩, ?_⟩
  rintro k σ' H' ⟨Z', S', ρ', s', t', p', eq⟩
  refine ⟨Z', S', ρ', s', ?_⟩
  cases k with
  | zero => rw [← eq] at h; exact h.elim
  | succ k =>
    unfold whileL at eq
    rw [← eq] at h
    cases e1 : tc ρ' with
    | no => rw [e1] at h; exact h.elim
    | ex x => rw [e1] at h; exact fun C H4 hm ht hx => h C H4 hm ht (t'.thenX hx fun x => Nat.le_refl _)
    | ok b ρ1 =>
      rw [e1] at h eq
      intro H1 Z1 S1 s1 t1
      cases b with
      | false => exact iteF (h σ' H1 Z1 S1 s1 (t'.trans t1) p')
      | true =>
        refine iteT ⟨fun σ2 H2 => ∃ (Z2 : Addr → Prop) (S2 : Ft) (ρ2 : En), Sit X.K T Z2 H2 S2 σ2 ρ2 ∧ Tr Z H S Z2 H2 S2 ∧ Pin pn σ σ2 ∧ whileL tc m k ρ2 = fin, fun σ2 H2 hN => ⟨k, Nat.lt_succ_self _, hN⟩, Z1, S1, ρ1, s1, ?_⟩
        have tt := t'.trans t1
        dsimp only at h eq
        cases e3 : m ρ1 with
        | nx ρ3 =>
          rw [e3] at eq
          exact fun σ4 H4 Z4 S4 s4 t4 p4 => ⟨Z4, S4, ρ3, s4, tt.trans t4, p'.trans p4, eq⟩
        | ct ρ3 =>
          rw [e3] at eq
          exact fun σ4 H4 Z4 S4 s4 t4 p4 => ⟨Z4, S4, ρ3, s4, tt.trans t4, p'.trans p4, eq⟩
        | bk ρ3 =>
          rw [e3] at h
          exact fun σ4 H4 Z4 S4 s4 t4 p4 => h σ4 H4 Z4 S4 s4 (tt.trans t4) (p'.trans p4)
        | rt dk ρ3 =>
          rw [e3] at h
          exact fun σ4 v H4 Z4 R4 S4 s4 r4 g4 t4 p4 => h σ4 v H4 Z4 R4 S4 s4 r4 g4 (tt.trans t4) (p'.trans p4)
        | ex x =>
          rw [e3] at h
          exact fun C H4 hm ht hx => h C H4 hm ht (tt.thenX hx fun x => Nat.le_refl _)
        | no => rw [e3] at h; exact h.elim
end
end Em
set_option Elab.async false
set_option linter.all false
set_option maxRecDepth 100000
set_option maxHeartbeats 4000000
/-! Em 9: list comprehensions. -/
namespace Em
open PySem L2 PyProof.Rows

def wipeE (ρ : En) : List Nat → En
  | [] => ρ
  | v :: vs => (wipeE ρ vs).set v none
def restE (ρ2 ρ1 : En) : List Nat → En
  | [] => ρ2
  | v :: vs => (restE ρ2 ρ1 vs).set v ((ρ1[v]?).getD none)
def ownOk (ρ : En) (vs : List Nat) : Bool := vs.all fun v => match ρ[v]? with | some none => true | some (some (_, 0)) => true | _ => false
def yesM : M Bool := fun ρ => .ok true ρ
def compL (t : D → En → Option En) (tt : M Bool) (te : M VD) (vs : List Nat) (j : Nat) : List D → List VD → M (List VD)
  | [], acc, ρ => .ok acc ρ
  | d :: r, acc, ρ => match t d ρ with
    | some ρ1 => (match tt ρ1 with
      | .ok true ρ2 => (match te ρ2 with
        | .ok y ρ3 => if j ≤ y.2 then compL t tt te vs j r (acc ++ [y]) (wipeE ρ3 vs) else .no
        | _ => .no)
      | .ok false ρ2 => compL t tt te vs j r acc (wipeE ρ2 vs)
      | _ => .no)
    | none => .no
def compM (fi : M (List D)) (t : D → En → Option En) (tt : M Bool) (te : M VD) (vs : List Nat) (j : Nat) : M VD := fun ρ => match fi ρ with
  | .ok ds ρ1 => if ds.length ≤ 1000000 ∧ ownOk ρ1 vs = true then (match compL t tt te vs j ds [] (wipeE ρ1 vs) with
      | .ok acc ρ2 => .ok (.lst (acc.map (·.1)), j + 1) (restE ρ2 ρ1 vs)
      | _ => .no) else .no
  | .ex x => .ex x
  | .no => .no

section
variable {K : PySem.W.Frag} {T : List (Addr × Str)} {Z Z' : Addr → Prop} {H H' : Hp} {S S' R : Ft} {σ σ' : L2.St} {ρ ρ1 ρ2 : En}
theorem Slots.swap : ∀ {σ σ' : L2.St} {ρ : En} {S : Ft}, Slots K Z H σ ρ S → σ'.length = σ.length → (∀ (i : Nat), ρ[i]? ≠ some none → σ'[i]? = σ[i]?) → Slots K Z H σ' ρ S
  | [], [], [], S, h, _, _ => h
  | _ :: σ, s' :: σ', none :: ρ, S, h, hl, hs => by
    simp only [Slots] at h ⊢
    exact Slots.swap h (by simpa using hl) fun i hi => by have := hs (i + 1) (by simpa using hi); simpa using this
  | some v :: σ, s' :: σ', some d :: ρ, S, h, hl, hs => by
    have e := hs 0 (by simp)
    simp at e
    subst e
    simp only [Slots] at h ⊢
    obtain ⟨S1, S2, r, s, q⟩ := h
    exact ⟨S1, S2, r, Slots.swap s (by simpa using hl) (fun i hi => by have := hs (i + 1) (by simpa using hi); simpa using this), q⟩
  | none :: _, _, some _ :: _, _, h, _, _ => by simp only [Slots] at h
  | [], _, _ :: _, _, h, _, _ => by simp only [Slots] at h
  | _ :: _, _, [], _, h, _, _ => by simp only [Slots] at h
  | [], _ :: _, [], _, _, hl, _ => by simp at hl
  | _ :: _, [], _ :: _, _, _, hl, _ => by simp at hl
theorem wipeE_len (ρ : En) : ∀ vs : List Nat, (wipeE ρ vs).length = ρ.length
  | [] => rfl
  | v :: vs => by unfold wipeE; rw [List.length_set, wipeE_len ρ vs]
theorem wipeE_none {ρ : En} {v : Nat} : ∀ {vs : List Nat}, v ∈ vs → v < ρ.length → (wipeE ρ vs)[v]? = some none
  | w :: vs, hm, hl => by
    unfold wipeE
    by_cases e : w = v
    · subst e; rw [List.getElem?_set_self (by rw [wipeE_len]; exact hl)]
    · rw [List.getElem?_set_ne e]
      rcases List.mem_cons.mp hm with z | z
      · exact absurd z.symm e
      · exact wipeE_none z hl
theorem wipe_ne {σ : L2.St} {i : Nat} : ∀ {vs : List Nat}, i ∉ vs → (wipe σ vs)[i]? = σ[i]?
  | [], _ => rfl
  | v :: vs, h => by
    unfold wipe
    rw [List.getElem?_set_ne (fun (z : v = i) => h (List.mem_cons.mpr (.inl z.symm))), wipe_ne fun z => h (List.mem_cons_of_mem _ z)]
theorem sit_wipe (vs : List Nat) (s : Sit K T Z H S σ ρ) (hv : ∀ v ∈ vs, v < ρ.length) : ∃ S2, Sit K T Z H S2 (wipe σ vs) (wipeE ρ vs) ∧ ∀ b, S2 b ≤ S b := by
  have : ∃ S2, Slots K Z H σ (wipeE ρ vs) S2 ∧ ∀ b, S2 b ≤ S b := by
    clear hv
    induction vs with
    | nil => exact ⟨S, s.sl, fun b => Nat.le_refl _⟩
    | cons v vs ih =>
      obtain ⟨S2, h, l⟩ := ih
      obtain ⟨S3, h3, l3⟩ := h.drop v
      exact ⟨S3, h3, fun b => Nat.le_trans (l3 b) (l b)⟩
  obtain ⟨S2, h, l⟩ := this
  refine ⟨S2, ⟨h.swap (wipe_length σ vs) fun i hi => ?_, s.gd.le l, s.tb⟩, l⟩
  by_cases hm : i ∈ vs
  · exact absurd (wipeE_none hm (hv i hm)) hi
  · exact wipe_ne hm
/-- the names of the comprehension as they were -/
theorem sit_rest (vs : List Nat) (s : Sit K T Z H S (wipe σ vs) ρ2) (hn : ∀ v ∈ vs, ρ2[v]? = some none)
    (ho : ∀ v ∈ vs, ρ1[v]? = some none ∨ ∃ d x, ρ1[v]? = some (some (d, 0)) ∧ σ[v]? = some (some x) ∧ Rep K Z H d 0 x (fun _ => 0)) : Sit K T Z H S σ (restE ρ2 ρ1 vs) := by
  have h0 : Slots K Z H σ ρ2 S := s.sl.swap (wipe_length σ vs).symm fun i hi => by
    by_cases hm : i ∈ vs
    · exact absurd (hn i hm) hi
    · exact (wipe_ne hm).symm
  refine ⟨?_, s.gd, s.tb⟩
  have key : ∀ us : List Nat, (∀ v ∈ us, v ∈ vs) → Slots K Z H σ (restE ρ2 ρ1 us) S := by
    intro us
    induction us with
    | nil => exact fun _ => h0
    | cons v us ih =>
      intro hm
      have h1 := ih fun w hw => hm w (List.mem_cons_of_mem _ hw)
      unfold restE
      obtain ⟨S2, h2, l2⟩ := h1.drop v
      have hlen : v < (restE ρ2 ρ1 us).length := by
        have e2 := h1.len
        have e3 := h0.len
        have := (List.getElem?_eq_some_iff.mp (hn v (hm v List.mem_cons_self))).1
        omega
      -- what is dropped owned nothing: its footprint may stay
      have at0 : ((restE ρ2 ρ1 us).set v none)[v]? = some none := List.getElem?_set_self hlen
      have hz : (restE ρ2 ρ1 us)[v]? = some none ∨ ∃ d, (restE ρ2 ρ1 us)[v]? = some (some (d, 0)) := by
        clear h1 h2 at0 hlen ih
        have : ∀ ws : List Nat, (∀ w ∈ ws, w ∈ vs) → (restE ρ2 ρ1 ws)[v]? = some none ∨ ∃ d, (restE ρ2 ρ1 ws)[v]? = some (some (d, 0)) := by
          intro ws
          induction ws with
          | nil => exact fun _ => .inl (hn v (hm v List.mem_cons_self))
          | cons w ws ih =>
            intro hw
            have q := ih fun u hu => hw u (List.mem_cons_of_mem _ hu)
            unfold restE
            by_cases e : w = v
            · subst e
              have hl : w < (restE ρ2 ρ1 ws).length := by
                rcases q with q | ⟨d, q⟩
                · exact (List.getElem?_eq_some_iff.mp q).1
                · exact (List.getElem?_eq_some_iff.mp q).1
              rw [List.getElem?_set_self hl]
              rcases ho w (hw w List.mem_cons_self) with z | ⟨d, x, z, _⟩
              · rw [z]; exact .inl rfl
              · rw [z]; exact .inr ⟨d, rfl⟩
            · rw [List.getElem?_set_ne e]; exact q
        exact this us fun w hw => hm w (List.mem_cons_of_mem _ hw)
      have h3 : Slots K Z H σ ((restE ρ2 ρ1 us).set v none) S := by
        rcases hz with z | ⟨d, z⟩
        · rw [set_self z]; exact h1
        · obtain ⟨x, Sa, Sb, _, r, sl, e⟩ := h1.take z
          exact sl.ft fun b => by have := e b; have := Rep.zero _ r b; omega
      rcases ho v (hm v List.mem_cons_self) with z | ⟨d, x, z, hx, r⟩
      · rw [z]; exact h3
      · rw [z]
        have := h3.put0 (dk := (d, 0)) at0 hx r
        rw [set_none_set] at this
        exact this.ft fun b => by show 0 + S b = S b; omega
  exact key vs fun _ h => h
theorem wipe_wipe (σ : L2.St) (vs : List Nat) : wipe (wipe σ vs) vs = wipe σ vs := by
  apply List.ext_getElem?
  intro i
  by_cases hm : i ∈ vs
  · have key : ∀ (τ : L2.St), (wipe τ vs)[i]? = (τ[i]?).map fun _ => none := by
      intro τ
      clear σ
      induction vs with
      | nil => cases hm
      | cons v vs ih =>
        unfold wipe
        by_cases e : v = i
        · subst e
          by_cases hl : v < τ.length
          · rw [List.getElem?_set_self (by rw [wipe_length]; exact hl), List.getElem?_eq_getElem hl]; rfl
          · rw [List.getElem?_eq_none (by rw [List.length_set, wipe_length]; omega), List.getElem?_eq_none (by omega)]; rfl
        · rw [List.getElem?_set_ne e]
          rcases List.mem_cons.mp hm with z | z
          · exact absurd z.symm e
          · exact ih z
    rw [key, key]
    cases σ[i]? <;> rfl
  · rw [wipe_ne hm]
theorem wipe_set {σ : L2.St} {i : Nat} {x : Option V} {vs : List Nat} (hm : i ∈ vs) : wipe (σ.set i x) vs = wipe σ vs := by
  apply List.ext_getElem?
  intro k
  by_cases hk : k ∈ vs
  · have key : ∀ (τ : L2.St), (wipe τ vs)[k]? = (τ[k]?).map fun _ => none := by
      intro τ
      clear hm
      induction vs with
      | nil => cases hk
      | cons v vs ih =>
        unfold wipe
        by_cases e : v = k
        · subst e
          by_cases hl : v < τ.length
          · rw [List.getElem?_set_self (by rw [wipe_length]; exact hl), List.getElem?_eq_getElem hl]; rfl
          · rw [List.getElem?_eq_none (by rw [List.length_set, wipe_length]; omega), List.getElem?_eq_none (by omega)]; rfl
        · rw [List.getElem?_set_ne e]
          rcases List.mem_cons.mp hk with z | z
          · exact absurd z.symm e
          · exact ih z
    rw [key, key]
    by_cases e : i = k
    · subst e
      by_cases hl : i < σ.length
      · rw [List.getElem?_set_self hl, List.getElem?_eq_getElem hl]; rfl
      · rw [List.getElem?_eq_none (by rw [List.length_set]; omega), List.getElem?_eq_none (by omega)]
    · rw [List.getElem?_set_ne e]
  · rw [wipe_ne hk, wipe_ne hk, List.getElem?_set_ne (fun (z : i = k) => hk (z ▸ hm))]
end

/-! targets of a comprehension: its own names alone -/
def tGw (K : PySem.W.Frag) (T : List (Addr × Str)) (vs : List Nat) (t : D → En → Option En) : TG := fun v σ H Q => ∃ (Z : Addr → Prop) (S : Ft) (ρ ρ1 : En) (d : D), Sit K T Z H S σ ρ ∧ Rep K Z H d 0 v (fun _ => 0) ∧ t d ρ = some ρ1 ∧
  ∀ σ' S', Sit K T Z H S' σ' ρ1 → (∀ b, S' b ≤ S b) → wipe σ' vs = wipe σ vs → Q σ' H
def tGsw (K : PySem.W.Frag) (T : List (Addr × Str)) (vs : List Nat) (ts : List (D → En → Option En)) : TGs := fun us σ H Q => ∃ (Z : Addr → Prop) (S : Ft) (ρ ρ1 : En) (ds : List D), Sit K T Z H S σ ρ ∧ Reps K Z H ds 0 us (fun _ => 0) ∧ tgs ts ds ρ = some ρ1 ∧
  ∀ σ' S', Sit K T Z H S' σ' ρ1 → (∀ b, S' b ≤ S b) → wipe σ' vs = wipe σ vs → Q σ' H
abbrev DC (X : Cx) (T : List (Addr × Str)) (vs : List Nat) (e : Expr) (t : D → En → Option En) : Prop := PG X e (tGw X.K T vs t)
abbrev DCs (X : Cx) (T : List (Addr × Str)) (vs : List Nat) (es : List Expr) (ts : List (D → En → Option En)) : Prop := PGs X es (tGsw X.K T vs ts)
section
variable {X : Cx} {T : List (Addr × Str)} {W : Wsh} {vs : List Nat} {e tg iter elt : Expr} {pos : Pos} {x : Str}
theorem dc_name (i : Nat) (hN : X.N.Nodup) (hi : X.N[i]? = some x := by rfl) (hx : Loc X.env.scope x := by first | exact Or.inl rfl | exact Or.inr rfl) (hf : X.fn x = true ∨ X.env.scope.names.lookup x = some .local := by first | exact .inl rfl | exact .inr rfl | assumption)
    (hm : i ∈ vs := by decide) : DC X T vs (.Name x pos) (tgN i) := by
  refine PG.imp (pg_name hN hi hx hf) fun v σ H Q h => ?_
  obtain ⟨Z, S, ρ, ρ1, d, sit, r, e, h⟩ := h
  unfold tgN at e
  cases e2 : ρ[i]? with
  | none => rw [e2] at e; cases e
  | some o =>
    rw [e2] at e
    cases e
    obtain ⟨S2, s2, l2⟩ := sit_set (dk := (d, 0)) sit e2 r sit.good0
    exact h _ S2 s2 (fun b => by have := l2 b; have : S2 b ≤ 0 + S b := this; omega) (wipe_set hm)
theorem dcs_nil : DCs X T vs [] [] := by
  refine PGs.imp pgs_nil fun v σ H Q h => ?_
  obtain ⟨Z, S, ρ, ρ1, ds, sit, r, e, h⟩ := h
  cases ds with
  | nil =>
    cases e
    unfold Reps at r
    exact ⟨r.1, h σ S sit (fun b => Nat.le_refl _) rfl⟩
  | cons _ _ => cases e
theorem dcs_cons {es : List Expr} {t : D → En → Option En} {ts : List (D → En → Option En)} (h1 : DC X T vs e t) (h2 : DCs X T vs es ts)
    (hs : (assignEach (e :: es) X.env).map (·.2) = assign e X.env :: (assignEach es X.env).map (·.2) := by rfl) : DCs X T vs (e :: es) (t :: ts) := by
  refine PGs.imp (pgs_cons h1 h2 hs) fun us σ H Q h => ?_
  obtain ⟨Z, S, ρ, ρ1, ds, sit, r, e, h⟩ := h
  cases ds with
  | nil => cases e
  | cons d ds =>
    unfold tgs at e
    cases e2 : t d ρ with
    | none => rw [e2] at e; cases e
    | some ρ2 =>
      rw [e2] at e
      unfold Reps at r
      obtain ⟨v, r', S1, S2, rfl, q1, q2, _⟩ := r
      refine ⟨v, r', rfl, Z, S, ρ, ρ2, d, sit, rep_ft q1 (Rep.zero _ q1), e2, fun σ' S' s' l' p' => ?_⟩
      exact ⟨Z, S', ρ2, ρ1, ds, s', reps_ft q2 (Reps.zero _ q2), e, fun σ2 S2 s2 l2 p2 => h σ2 S2 s2 (fun b => Nat.le_trans (l2 b) (l' b)) (p2.trans p')⟩
theorem dc_tup {es : List Expr} {ts : List (D → En → Option En)} {k : Nat} (hc : X.calm = true) (h : DCs X T vs es ts) (hl : (assignEach es X.env).length = ts.length := by rfl) (hst : (assignEach es X.env).findIdx? (·.1) = none := by rfl) : DC X T vs (.Tuple es k pos) (tgT ts) := by
  refine PG.imp (pg_tup hc h hl hst) fun v σ H Q h => ?_
  obtain ⟨Z, S, ρ, ρ1, d, sit, r, e, h⟩ := h
  cases d with
  | tup ds =>
    obtain ⟨a, us, rfl, hs, rs⟩ := rep_tup0 r
    have e : tgs ts ds ρ = some ρ1 := e
    exact ⟨a, us, rfl, hs, by rw [rs.len]; exact tgs_len e, Z, S, ρ, ρ1, ds, sit, rs, e, h⟩
  | _ => cases e
abbrev W0 : Wsh := fun _ _ => False
abbrev DTs (X : Cx) (T : List (Addr × Str)) (ifs : List Expr) (f : M Bool) : Prop := PTs X ifs (tT X.K T X.mg W0 f)
theorem dts_nil : DTs X T [] yesM := ⟨fun pins s σ H Q I h => pts_nil.run pins s σ H Q I (by
  obtain ⟨Z, S, ρ, sit, h⟩ := h
  exact h H Z S sit (Tr.refl fun b => Nat.le_refl _))⟩
theorem dts_one {c : Expr} {f : M Bool} (h : DT X T W0 c f) : DTs X T [c] f := pts_one h
theorem tk0 {X : Cx} : Tk X W0 := fun u s' x => by
  obtain ⟨_, _, _, _, _, _, _, _, _, _, _, _, _, _, _, _, z⟩ := x
  exact z.2.elim
theorem tD_lc {own : List (Str × Nat)} {fi : M (List D)} {t : D → En → Option En} {tt : M Bool} {te : M VD} {j : Nat} {σ : L2.St} {H : Hp} {Q : VK} (h : tD X.K T X.mg W (compM fi t tt te (own.map (·.2)) j) σ H Q) :
    tLc (tI X.K T X.mg W fi) (tGw X.K T (own.map (·.2)) t) (tT X.K T X.mg W0 tt) (tD X.K T X.mg W0 te) (own.map (·.2)) σ H Q := by
  generalize hvs : own.map (·.2) = vs at h ⊢
  obtain ⟨Z, S, ρ, sit, h⟩ := h
  refine ⟨Z, S, ρ, sit, ?_⟩
  unfold compM at h
  cases e1 : fi ρ with
  | no => rw [e1] at h; exact h
  | ex x => rw [e1] at h; exact h
  | ok ds ρ1 =>
    rw [e1] at h
    dsimp only at h
    intro J H1 Z1 S1 s1 t1 wk L hL
    by_cases hcond : ds.length ≤ 1000000 ∧ ownOk ρ1 vs = true
    case neg => rw [if_neg hcond] at h; exact h.elim
    rw [if_pos hcond] at h
    obtain ⟨hlen, hown⟩ := hcond
    cases efin : compL t tt te vs j ds [] (wipeE ρ1 vs) with
    | no => rw [efin] at h; exact h.elim
    | ex x => rw [efin] at h; exact h.elim
    | ok accF ρF =>
    rw [efin] at h
    dsimp only at h
    -- the comprehension's own slots
    have hown' : ∀ v ∈ vs, ρ1[v]? = some none ∨ ∃ d, ρ1[v]? = some (some (d, 0)) := fun v hv => by
      have q := List.all_eq_true.mp hown v hv
      split at q
      · exact .inl (by assumption)
      · exact .inr ⟨_, by assumption⟩
      · cases q
    have hown1 : ∀ v ∈ vs, ρ1[v]? = some none ∨ ∃ d x, ρ1[v]? = some (some (d, 0)) ∧ σ[v]? = some (some x) ∧ Rep X.K Z1 H1 d 0 x (fun _ => 0) := fun v hv => by
      rcases hown' v hv with q | ⟨d, q⟩
      · exact .inl q
      · obtain ⟨x, Sa, Sb, ex, r, _, _⟩ := s1.sl.take q
        exact .inr ⟨d, x, q, ex, rep_ft r (Rep.zero _ r)⟩
    have hvl : ∀ v ∈ vs, v < ρ1.length := fun v hv => by
      rcases hown' v hv with q | ⟨d, q⟩
      · exact (List.getElem?_eq_some_iff.mp q).1
      · exact (List.getElem?_eq_some_iff.mp q).1
    have hlenσ : ρ1.length = σ.length := s1.sl.len.symm
    obtain ⟨S2, s2, l2⟩ := sit_wipe vs s1 hvl
    -- the state at a turn
    let Inv' : Nat → Hp → Prop := fun i H' => i ≤ ds.length ∧ ∃ (Z' : Addr → Prop) (S' R : Ft) (ρ' : En) (acc : List VD) (us : List V), Sit X.K T Z' H' S' (wipe σ vs) ρ' ∧ H' L = some (.lst us) ∧ Reps X.K Z' H' (acc.map (·.1)) j us R ∧
      Good Z' H' (fun b => (f1 L b + R b) + S' b) ∧ Tr Z1 H1 S1 Z' H' (fun b => (f1 L b + R b) + S' b) ∧ (∀ v ∈ vs, ρ'[v]? = some none) ∧ acc.length ≤ i ∧ compL t tt te vs j (ds.drop i) acc ρ' = .ok accF ρF
    refine ⟨fun i k H' => k = ds.length - i ∧ Inv' i H', ⟨ds.length, by simp, Nat.zero_le _, Z1, S2, fun _ => 0, wipeE ρ1 vs, [], [], ?_, upd_same, ?_, ?_, ?_, fun v hv => wipeE_none hv (hvl v hv), Nat.le_refl _, by simpa using efin⟩, ?_⟩
    · exact ⟨s2.sl.keep (kp_upd hL), s2.gd.fresh0 hL, tabs_upd s2.tb hL⟩
    · unfold Reps; exact ⟨rfl, fun _ => rfl⟩
    · exact (s2.gd.fresh hL rfl).eq fun b => by show f1 L b + S2 b = f1 L b + 0 + S2 b; omega
    · exact (Tr.fresh hL).le fun b => by have := l2 b; show f1 L b + 0 + S2 b ≤ f1 L b + S1 b; omega
    rintro i k H' ⟨rfl, hi, Z', S', R, ρ', acc, us, s', hH', rA, g', t', hn', hacc, eq⟩
    have kp := Tr.kp0 s1.gd t'
    by_cases hlt : i < ds.length
    · refine .inr ⟨wk.go i Z' H' hlt kp, Inv' (i + 1), fun H2 hN => ⟨ds.length - (i + 1), by omega, rfl, hN⟩, fun x H'' y => ?_⟩
      have hd : ds[i]? = some ds[i] := List.getElem?_eq_getElem hlt
      obtain ⟨hx, rx⟩ := wk.yld i _ Z' H' x H'' hd kp y
      have s'' := ext_sit s' hx
      have g'' := ext_good g' hx
      have rA'' : Reps X.K Z' H'' (acc.map (·.1)) j us R := rA.keep _ (ext_kp hx)
      have hH'' := hx _ _ hH'
      have t'' : Tr Z1 H1 S1 Z' H'' (fun b => (f1 L b + R b) + S' b) := t'.trans (ext_tr hx)
      have edrop : ds.drop i = ds[i] :: ds.drop (i + 1) := List.drop_eq_getElem_cons hlt
      rw [edrop] at eq
      unfold compL at eq
      cases e2 : t ds[i] ρ' with
      | none => rw [e2] at eq; cases eq
      | some ρ2 =>
        rw [e2] at eq
        dsimp only at eq
        refine ⟨Z', S', ρ', ρ2, ds[i], s'', rx, e2, fun σ3 S3 s3 l3 w3 => ?_⟩
        have w3' : wipe σ3 vs = wipe σ vs := w3.trans (wipe_wipe σ vs)
        refine ⟨w3', Z', S3, ρ2, s3, ?_⟩
        have g3 : Good Z' H'' (fun b => (f1 L b + R b) + S3 b) := g''.le fun b => by have := l3 b; show f1 L b + R b + S3 b ≤ f1 L b + R b + S' b; omega
        have t3 : Tr Z1 H1 S1 Z' H'' (fun b => (f1 L b + R b) + S3 b) := t''.le fun b => by have := l3 b; show f1 L b + R b + S3 b ≤ f1 L b + R b + S' b; omega
        cases e3 : tt ρ2 with
        | no => rw [e3] at eq; cases eq
        | ex x => rw [e3] at eq; cases eq
        | ok b ρ3 =>
          rw [e3] at eq
          intro H3 Z3 S4 s4 t4
          have g4 := g3.hold t4 s4.gd
          have k4 := g3.kp t4
          have t34 : Tr Z1 H1 S1 Z3 H3 (fun b => (f1 L b + R b) + S4 b) := t3.trans (t4.hold _)
          have hH3 : H3 L = some (.lst us) := k4.h L _ hH'' (.inl (by show 0 < f1 L L + R L; rw [f1_self]; omega)) (fun _ z => by cases z)
          have rA3 : Reps X.K Z3 H3 (acc.map (·.1)) j us R := rA''.keep _ (k4.le fun b => Nat.le_add_left _ _)
          have hl3 : ρ3.length = σ.length := by
            have a1 := s4.sl.len
            have a2 := congrArg List.length w3'
            rw [wipe_length, wipe_length] at a2
            omega
          have nxt : ∀ {H5 : Hp} {Z5 : Addr → Prop} {S5 R5 : Ft} {ρ5 : En} {acc5 : List VD} {us5 : List V}, ρ5.length = σ.length → Sit X.K T Z5 H5 S5 σ3 ρ5 → H5 L = some (.lst us5) → Reps X.K Z5 H5 (acc5.map (·.1)) j us5 R5 → Good Z5 H5 (fun b => (f1 L b + R5 b) + S5 b) →
              Tr Z1 H1 S1 Z5 H5 (fun b => (f1 L b + R5 b) + S5 b) → acc5.length ≤ i + 1 → compL t tt te vs j (ds.drop (i + 1)) acc5 (wipeE ρ5 vs) = .ok accF ρF → Inv' (i + 1) H5 := by
            intro H5 Z5 S5 R5 ρ5 acc5 us5 hl s5 h5 r5 g5 t5 ha e5
            have hv5 : ∀ v ∈ vs, v < ρ5.length := fun v hv => by have := hvl v hv; omega
            obtain ⟨S6, s6, l6⟩ := sit_wipe vs s5 hv5
            rw [w3'] at s6
            exact ⟨hlt, Z5, S6, R5, _, acc5, us5, s6, h5, r5, g5.le fun b => by have := l6 b; show f1 L b + R5 b + S6 b ≤ f1 L b + R5 b + S5 b; omega, t5.le fun b => by have := l6 b; show f1 L b + R5 b + S6 b ≤ f1 L b + R5 b + S5 b; omega,
              fun v hv => wipeE_none hv (hv5 v hv), ha, e5⟩
          cases b with
          | false => exact iteF (nxt hl3 s4 hH3 rA3 g4 t34 (by omega) eq)
          | true =>
            refine iteT ⟨Z3, S4, ρ3, s4, ?_⟩
            dsimp only at eq
            cases e5 : te ρ3 with
            | no => rw [e5] at eq; cases eq
            | ex x => rw [e5] at eq; cases eq
            | ok dk ρ4 =>
              rw [e5] at eq
              dsimp only at eq
              intro v H5 Z5 Ry S6 s6 ry gy ty
              split at eq
              case isFalse => cases eq
              rename_i hj
              have g6 : Good Z5 H5 (fun b => (f1 L b + R b) + (Ry b + S6 b)) := g4.hold ty gy
              have k6 := g4.kp ty
              have t6 : Tr Z1 H1 S1 Z5 H5 (fun b => (f1 L b + R b) + (Ry b + S6 b)) := t34.trans (ty.hold _)
              have hH5 : H5 L = some (.lst us) := k6.h L _ hH3 (.inl (by show 0 < f1 L L + R L; rw [f1_self]; omega)) (fun _ z => by cases z)
              have rA5 : Reps X.K Z5 H5 (acc.map (·.1)) j us R := rA3.keep _ (k6.le fun b => Nat.le_add_left _ _)
              -- the item at its depth
              have gRy : Good Z5 H5 Ry := g6.le fun b => by show Ry b ≤ f1 L b + R b + (Ry b + S6 b); omega
              obtain ⟨Rz, lz, rz⟩ := Rep.weak dk.1 ry hj gRy.one
              have g7 : Good (frz Z5 Ry Rz) H5 (fun b => ((f1 L b + R b) + S6 b) + Rz b) := (show Good Z5 H5 (fun b => ((f1 L b + R b) + S6 b) + Ry b) from g6.eq fun b => by show f1 L b + R b + (Ry b + S6 b) = f1 L b + R b + S6 b + Ry b; omega).hold (Tr.frz gRy lz) (gRy.frz lz)
              have t7 : Tr Z1 H1 S1 (frz Z5 Ry Rz) H5 (fun b => ((f1 L b + R b) + S6 b) + Rz b) := t6.trans (((Tr.frz gRy lz).hold (fun b => (f1 L b + R b) + S6 b)).from fun b => by show f1 L b + R b + S6 b + Ry b ≤ f1 L b + R b + (Ry b + S6 b); omega)
              have k7 : ∀ {U : Ft}, Kp Z5 (frz Z5 Ry Rz) H5 H5 U := .same fun a z => .inl z
              have rB := (rA5.keep _ k7).snoc rz
              have g8 : Good (frz Z5 Ry Rz) H5 (fun b => (f1 L b + (R b + Rz b)) + S6 b) := g7.eq fun b => by show f1 L b + R b + S6 b + Rz b = f1 L b + (R b + Rz b) + S6 b; omega
              have haL : 0 < (fun b => (f1 L b + (R b + Rz b)) + S6 b) L := by show 0 < f1 L L + (R L + Rz L) + S6 L; rw [f1_self]; omega
              have h1L : f1 L L + (R L + Rz L) + S6 L ≤ 1 := g8.one L
              rw [f1_self] at h1L
              have kw : ∀ {U : Ft}, U L = 0 → Kp (frz Z5 Ry Rz) (frz Z5 Ry Rz) H5 (upd H5 L (.lst (us ++ [v]))) U := fun hU => kp_write g8 haL hU
              refine ⟨us, hH5, ?_, ?_⟩
              · have e6 := rA5.len
                rw [List.length_map] at e6
                rw [e6, sizeLine_eq]
                omega
              · refine nxt (acc5 := acc ++ [dk]) (us5 := us ++ [v]) (R5 := fun b => R b + Rz b) ?_ ⟨(s6.sl.keep k7).keep (kw (by omega)), (g8.write haL rfl).le fun b => Nat.le_add_left _ _, tabs_write s6.tb g8 haL⟩ upd_same ?_ (g8.write haL rfl) ?_ ?_ eq
                · have a1 := s6.sl.len
                  have a2 := congrArg List.length w3'
                  rw [wipe_length, wipe_length] at a2
                  omega
                · rw [List.map_append]
                  exact rB.keep _ (kw (by show R L + Rz L = 0; omega))
                · exact t7.trans (Tr.from (S := fun b => (f1 L b + (R b + Rz b)) + S6 b) (Tr.write (o := .lst (us ++ [v])) haL) fun b => by show f1 L b + (R b + Rz b) + S6 b ≤ f1 L b + R b + S6 b + Rz b; omega)
                · simp only [List.length_append, List.length_singleton]; omega
    · have e : i = ds.length := by omega
      subst e
      refine .inl ⟨wk.stop Z' H' kp, ?_⟩
      rw [List.drop_length] at eq
      unfold compL at eq
      cases eq
      have sr := sit_rest (ρ1 := ρ1) vs s' hn' fun v hv => by
        rcases hown1 v hv with q | ⟨d, x, q, ex, r⟩
        · exact .inl q
        · exact .inr ⟨d, x, q, ex, r.keep _ kp⟩
      refine h (.ref L) H' Z' (fun b => f1 L b + R b) S' sr ?_ g' (t1.trans t')
      simp only [Rep]
      exact ⟨L, us, R, rfl, hH', rA, fun _ => rfl⟩
theorem de_lc {ifs : List Expr} {scope : Scope} {own : List (Str × Nat)} {fi : M (List D)} {t : D → En → Option En} {tt : M Bool} {te : M VD} (j : Nat) (hc : X.calm = true) (hN : X.N.Nodup) (hi : DI X T W tg iter fi) (ok : BlkOk X.N X.env.scope scope own)
    (hg : ∀ (s : Shared) (H : Hp) (C : Addr) (cl : List (Str × Addr)) (fp : List Addr), DC (X.blk s H scope (compEnvC scope cl C X.env) fp) T (own.map (·.2)) tg t) (ht : ∀ (s : Shared) (H : Hp) (C : Addr) (cl : List (Str × Addr)) (fp : List Addr), DTs (X.blk s H scope (compEnvC scope cl C X.env) fp) T ifs tt)
    (he : ∀ (s : Shared) (H : Hp) (C : Addr) (cl : List (Str × Addr)) (fp : List Addr), DE (X.blk s H scope (compEnvC scope cl C X.env) fp) T W0 elt te) (hs : ∀ x, foldedSetIterable iter X.env x = pure x := by intro _; rfl) :
    DE X T W (.ListComp elt [⟨tg, iter, ifs, 0⟩] scope pos) (compM fi t tt te (own.map (·.2)) j) := by
  exact PE.imp (pe_lc (g := tGw X.K T (own.map (·.2)) t) (tt := tT X.K T X.mg W0 tt) (te := tD X.K T X.mg W0 te) hc hN hi ok hg ht he hs) fun σ H Q h => tD_lc h
/-- x = [.. for ..], on one line -/
theorem ss_setLc {pn : Bool} {y : Str} {py spos : Pos} {ifs : List Expr} {scope : Scope} {own : List (Str × Nat)} {fi : M (List D)} {t : D → En → Option En} {tt : M Bool} {te : M VD} (i j : Nat) (hc : X.calm = true) (hN : X.N.Nodup) (hi : DI X T W tg iter fi) (ok : BlkOk X.N X.env.scope scope own)
    (hg : ∀ (s : Shared) (H : Hp) (C : Addr) (cl : List (Str × Addr)) (fp : List Addr), DC (X.blk s H scope (compEnvC scope cl C X.env) fp) T (own.map (·.2)) tg t) (ht : ∀ (s : Shared) (H : Hp) (C : Addr) (cl : List (Str × Addr)) (fp : List Addr), DTs (X.blk s H scope (compEnvC scope cl C X.env) fp) T ifs tt)
    (he : ∀ (s : Shared) (H : Hp) (C : Addr) (cl : List (Str × Addr)) (fp : List Addr), DE (X.blk s H scope (compEnvC scope cl C X.env) fp) T W0 elt te) (hs : ∀ x, foldedSetIterable iter X.env x = pure x := by intro _; rfl) (hy : X.N[i]? = some y := by rfl) (hyl : X.env.scope.names.lookup y = some .local := by rfl)
    (hsw : swapsWith (.ListComp elt [⟨tg, iter, ifs, 0⟩] scope pos) (some (.Name y py)) spos.line X.env = pure true := by exact sw_true rfl rfl rfl rfl) (hp : pn = true → i ≠ 0 := by intro h; first | cases h; done | decide) :
    SS X T W pn (.Assign [.Name y py] (.ListComp elt [⟨tg, iter, ifs, 0⟩] scope pos) spos) (setS i (compM fi t tt te (own.map (·.2)) j)) := by
  exact PS.imp (ps_setLc (g := tGw X.K T (own.map (·.2)) t) (tt := tT X.K T X.mg W0 tt) (te := tD X.K T X.mg W0 te) hc hN hy hyl hsw hi ok hg ht he hs) fun D σ H h => by
    have q := tD_lc (tSt_set hp h)
    exact q
end
end Em
set_option Elab.async false
set_option linter.all false
set_option maxRecDepth 100000
set_option maxHeartbeats 4000000
/-! Em 10: enumerate, zip, ranges as lists, count, index. -/
namespace Em
open PySem L2 PyProof.Rows

/-! ### enumerate(a tuple) -/
section
open AutoSeq1 (wpAny_loadPart')
theorem meets_enumerate_newT (l : Addr) (items : Array Value) (n : Nat) (dct : Option Addr) (sl : Array (Option Value)) :
    Meets (Builtin.«enumerate.__new__» ⟨[.type "enumerate", .ref l], []⟩) (fun _ R s => s.heap.get? l = some { cls := .type "tuple", dict := dct, data := .seq items n, slots := sl } ∧
      R (.ok (.ret (.ref (s.heap.push { cls := .type "tuple_iterator", data := .fields #[.ref l, .int 0 0] }).objs.size)))
        { s with heap := (s.heap.push { cls := .type "tuple_iterator", data := .fields #[.ref l, .int 0 0] }).push { cls := .type "enumerate", data := .fields #[.none, .bool false, .ref s.heap.objs.size, rawInt 0, .none, .none] } }) :=
  .of_wp fun prog w A R s h => by
    obtain ⟨hp, g, d, tk, os⟩ := s; obtain ⟨hl, h⟩ := h
    have hsub := sub_enumerate
    have hL : Heap.IsTuple (Shared.heap ⟨hp, g, d, tk, os⟩) l items := ⟨_, hl, rfl, n, rfl⟩
    wp_walk using wpAny_loadPart' hl
    refine wpAny_stack_any fun st => wpAny_pure ?_
    split
    · rename_i c _ _ _ _ _
      cases (c == Value.type "enumerate")
      · wp_walk using wpAny_loadPart' hl, wpAny_pyIter_tuple hL
        exact ⟨_, rfl, h⟩
      · wp_walk using wpAny_loadPart' hl, wpAny_pyIter_tuple hL
        exact ⟨_, rfl, h⟩
    · wp_walk using wpAny_loadPart' hl, wpAny_pyIter_tuple hL
      exact ⟨_, rfl, h⟩
theorem call_enumerate_tuple {prog : Program} {w : World} {A : Around} {E : Value → Shared → Prop} {s : Shared} {l : Addr} {items : Array Value} {Q : Value → Shared → Prop} (hL : s.heap.IsTuple l items)
    (h : ∀ h', IsEnum h' (s.heap.objs.size + 1) s.heap.objs.size 0 .none → h'.IsTupleIter s.heap.objs.size l 0 → h'.objs.size = s.heap.objs.size + 2 →
      (∀ b o, s.heap.get? b = some o → h'.get? b = some o) → Q (.ref (s.heap.objs.size + 1)) { s with heap := h' }) :
    wpAny (model prog w) A (call (.type "enumerate") [.ref l]) Q E s := by
  obtain ⟨⟨c, dct, dt, sl⟩, hl, hc, n, hd⟩ := hL
  replace hc : c = .type "tuple" := hc
  replace hd : dt = .seq items n := hd
  subst hc hd
  refine callType_new F.called_enumerate (by decide) (F.typeCall_enumerate_1 _) (F.newCall_enumerate_1 _) (fun obj => F.args_object_init_2 obj _) F.entry_enumerate_new
    (meets_enumerate_newT l items n dct sl) ⟨hl, ?_⟩
  have hz : (s.heap.push { cls := .type "tuple_iterator", data := .fields #[.ref l, .int 0 0] }).objs.size = s.heap.objs.size + 1 := Heap.size_push ..
  show _ ∧ _
  rw [hz]
  have he : IsEnum ((s.heap.push { cls := .type "tuple_iterator", data := .fields #[.ref l, .int 0 0] }).push
      { cls := .type "enumerate", data := .fields #[.none, .bool false, .ref s.heap.objs.size, rawInt 0, .none, .none] }) (s.heap.objs.size + 1) s.heap.objs.size 0 .none := by
    have := Heap.get?_push_size (s.heap.push { cls := .type "tuple_iterator", data := .fields #[.ref l, .int 0 0] })
      (o := { cls := .type "enumerate", data := .fields #[.none, .bool false, .ref s.heap.objs.size, rawInt 0, .none, .none] }) rfl
    rw [hz] at this; exact this
  refine ⟨⟨_, he, rfl⟩, h _ he ⟨_, Heap.get?_push_of_some _ (Heap.get?_push_size _ rfl), rfl, rfl⟩ (by rw [Heap.size_push, hz]) fun b o x => Heap.get?_push_of_some _ (Heap.get?_push_of_some _ x)⟩
end
def IteT (K : PySem.W.Frag) (a : Addr) : It :=
  ⟨fun i H => ∃ (xs : List V) (x : V), SqT K H a xs ∧ xs[i]? = some x, fun i H v H' => ∃ T x, v = .ref T ∧ H T = none ∧ H' = upd H T (.tup [.int (i : Nat), x]) ∧ ∀ xs, SqT K H a xs → xs[i]? = some x, fun i H => ∃ xs : List V, SqT K H a xs ∧ xs.length = i⟩
theorem turn_enumT {P : Program} {w : World} {K : PySem.W.Frag} {elts : List Expr} {kk : Nat} {tpos : Pos} (a e it : Addr) :
    Turn P w K (.Tuple elts kk tpos) (IteT K a) [e, it] e (fun i h => (∃ old, IsEnum h e it ((i : Nat) : Int) old) ∧ h.IsTupleIter it a i ∧ e ≠ it ∧ a ≠ it ∧ a ≠ e) where
  mem := by simp
  obj := fun i h st b hb => by
    obtain ⟨⟨old, he⟩, ⟨o, ho, hc, hd⟩, _⟩ := st
    have e' : b = e ∨ b = it := by simpa using hb
    rcases e' with z | z
    · rw [z]; exact ⟨_, he, fun v q => nomatch q⟩
    · rw [z]; exact ⟨o, ho, fun v q => by rw [hd] at q; cases q⟩
  keep := fun i h h' st k => let ⟨⟨old, he⟩, hi, hne, hai, hae⟩ := st; ⟨⟨old, k e (by simp) _ he⟩, hi.at fun o q => k it (by simp) o q, hne, hai, hae⟩
  item := by
    intro X hP hw hK hc i pins s σ H E I hf st hg
    subst hP hw hK
    obtain ⟨⟨old, he⟩, hit, hne, hai, hae⟩ := st
    obtain ⟨xs, x, hq, hx⟩ := hg
    obtain ⟨its, rv, p, hz⟩ := I.tuple hq
    have hT : s.heap.IsTuple a its.toArray := p
    obtain ⟨u, hu, ru⟩ := rv.get hx
    have hel : e < s.heap.objs.size := Heap.lt_size he
    have hil : it < s.heap.objs.size := by obtain ⟨_, q, _⟩ := hit; exact Heap.lt_size q
    have hiu : i < its.toArray.size := by
      have := (List.getElem?_eq_some_iff.mp hu).1
      simpa using this
    refine wpAny_pyNext_enum_itemD (Draws.tuple (A := X.A.in1) (by first | exact I.ok.hd hc | exact (I.ok.hd hc)) it a hai its.toArray) he ⟨hit, hT⟩ hiu hne (by simp [hne, Ne.symm hae]) fun y h' tk hP ho hit' hTt hsz hk => ?_
    have ey : y = u := by
      have hP : its.toArray[i]? = some y := hP
      have e1 : its.toArray[i]? = some u := by simpa using hu
      rw [e1] at hP
      exact (Option.some.inj hP).symm
    subst ey
    refine ⟨_, rfl, wpAny_letOwnedTupleGo_enum (s := { s with heap := h', toks := tk + 1 }) ho fun h'' he' sb => ?_⟩
    have hT2 : h''.get? s.heap.objs.size = some { cls := .type "tuple", data := .seq #[.int i tk, y] } := (sb.2 _ (Nat.ne_of_gt hel)).trans hTt
    have new : ObjOk X.prog X.w (upd H s.heap.objs.size (.tup [.int (i : Nat), x])) h'' s.heap.objs.size (.tup [.int (i : Nat), x]) :=
      ⟨by show 2 ≤ sizeLine; decide, [.int i tk, y], .cons ⟨_, rfl⟩ (.cons ru .nil), ⟨_, hT2, rfl, _, rfl⟩⟩
    have I1 : Inv X pins σ (upd H s.heap.objs.size (.tup [.int (i : Nat), x])) { s with heap := h'', toks := tk + 1 } :=
      I.turnedNew (ch := [e, it]) (fun b ob hb q => (sb.2 b (fun z => hb (by simp [z]))).trans (hk b ob (fun z => hb (by simp [z])) (fun z => hb (by simp [z])) q)) hf (Nat.le_refl _) new
    refine ⟨.ref s.heap.objs.size, _, I1, rfl, ⟨_, x, rfl, I.hok.fresh (Nat.le_refl _), rfl, fun ys hy => by rw [I.tuple_inj hy hq]; exact hx⟩, ⟨⟨y, ?_⟩, hit'.1.at fun o q => (sb.2 it (Ne.symm hne)).trans q, hne, hai, hae⟩, fun b hb => ?_⟩
    · have e1 : ((i + 1 : Nat) : Int) = (i : Int) + 1 := by omega
      rw [e1]; exact he'
    · have hb' : b < s.heap.objs.size := by
        have e' : b = e ∨ b = it := by simpa using hb
        rcases e' with z | z
        · rw [z]; exact hel
        · rw [z]; exact hil
      rw [upd_ne (Nat.ne_of_lt hb')]
      exact (hf b hb).1
  done := by
    intro X hP hw hK hc i pins s σ H E I hf st hg
    subst hP hw hK
    obtain ⟨⟨old, he⟩, hit, hne, hai, hae⟩ := st
    obtain ⟨xs, hq, hx⟩ := hg
    obtain ⟨its, rv, p, hz⟩ := I.tuple hq
    have hT : s.heap.IsTuple a its.toArray := p
    obtain ⟨f0, f1, f2, f3, f4, f5⟩ := hf it (by simp)
    have hl := rv.length
    have hn : i = its.toArray.size := by simp; omega
    refine wpAny_pyNext_enum_endD (Draws.tuple (A := X.A.in1) (by first | exact I.ok.hd hc | exact (I.ok.hd hc)) it a hai its.toArray) he ⟨hn ▸ hit, hT⟩ fun h' eb => ⟨rfl, I.turned (t' := s.toks) (fun b o hb q => eb b o hb q) f0 f1 f3 f4 f5⟩
  self := fun A i s Q E st h => let ⟨⟨_, he⟩, _⟩ := st; wpAny_pyIter_enum he h
def iEnumT (K : PySem.W.Frag) (ta : TA) : TI := fun σ H R => ta σ H fun vs H1 => ∃ a xs, vs = [.ref a] ∧ SqT K H1 a xs ∧ R (IteT K a) H1
theorem pi_enumT {X : Cx} {e : Expr} {ta : TA} {p pos tpos : Pos} {elts : List Expr} {kk : Nat} (hg : Gl X "enumerate") (hm : X.mg "enumerate" = none) (ha : PA X [e] ta) (hs : starEach [e] X.env = [(false, eval e X.env)] := by rfl) :
    PI X (.Tuple elts kk tpos) (.Call (.Name "enumerate" p) [e] [] pos) (iEnumT X.K ta) := by
  refine ⟨fun pins s σ H R I h => ?_⟩
  refine Call_ (ld_blt I hg hm boot_enumerate (PyProof.Rows.callWith_type1 (thn (ha.run pos pins s σ H _ I h) fun us s1 ⟨vs, H1, I1, r1, q1⟩ => ?_) hs rfl))
  obtain ⟨a, xs, ex, hq, q⟩ := q1
  subst ex
  cases r1 with
  | cons r rr =>
    cases rr
    cases r
    obtain ⟨its, rv, p', hz⟩ := I1.tuple hq
    have hT : s1.heap.IsTuple a its.toArray := p'
    have hal : a < s1.heap.objs.size := by obtain ⟨o, q, _⟩ := hT; exact Heap.lt_size q
    refine call_enumerate_tuple hT fun h' he hit hsz hk => wpAny_pyIter_enum he ?_
    have I2 : Inv X pins σ H1 { s1 with heap := h' } := I1.kept (t' := s1.toks) hk
    refine ⟨s1.heap.objs.size + 1, [s1.heap.objs.size + 1, s1.heap.objs.size], _, _, H1, rfl, I2, turn_enumT a (s1.heap.objs.size + 1) s1.heap.objs.size, ⟨⟨.none, he⟩, hit, Nat.succ_ne_self _, Nat.ne_of_lt hal, Nat.ne_of_lt (Nat.lt_succ_of_lt hal)⟩, fun b hb => ?_, q⟩
    have e' : b = s1.heap.objs.size + 1 ∨ b = s1.heap.objs.size := by simpa using hb
    have hle : s1.heap.objs.size ≤ b := by
      rcases e' with z | z
      · rw [z]; exact Nat.le_add_right _ _
      · rw [z]; exact Nat.le_refl _
    exact I1.fpOk hle (I1.hok.fresh hle)
section
variable {K : PySem.W.Frag} {Z : Addr → Prop} {H : Hp}
theorem reps_pair {d e : D} {v w : V} {T : Addr} (h1 : Rep K Z H d 0 v (fun _ => 0)) (h2 : Rep K Z H e 0 w (fun _ => 0)) (hT : H T = none) : Rep K Z (upd H T (.tup [v, w])) (.tup [d, e]) 0 (.ref T) (fun _ => 0) := by
  simp only [Rep]
  refine ⟨T, [v, w], rfl, .of upd_same, ?_⟩
  unfold Reps
  refine ⟨v, [w], fun _ => 0, fun _ => 0, rfl, h1.keep _ (kp_upd hT), ?_, fun _ => rfl⟩
  unfold Reps
  refine ⟨w, [], fun _ => 0, fun _ => 0, rfl, h2.keep _ (kp_upd hT), ?_, fun _ => rfl⟩
  unfold Reps
  exact ⟨rfl, fun _ => rfl⟩
theorem getElem?_mapIdx' {α β : Type} (f : Nat → α → β) (l : List α) (i : Nat) : (l.mapIdx f)[i]? = (l[i]?).map (f i) := List.getElem?_mapIdx
theorem wk_enumL {a : Addr} {vs : List V} {ds : List D} (h : Z a) (hH : H a = some (.lst vs)) (r : Reps K Z H ds 0 vs (fun _ => 0)) : Wk K Z H (Ite K a) (ds.mapIdx fun i d => .tup [.int i, d]) := by
  have at' : ∀ {Z' H'}, Kp Z Z' H H' (fun _ => 0) → H' a = some (.lst vs) := fun k => k.h a _ hH (.inr (.inl h)) (fun _ z => by cases z)
  refine ⟨fun i Z' H' hi k => ?_, fun i d Z' H' x H'' hd k y => ?_, fun Z' H' k => ⟨vs, .of (at' k), by rw [r.len]; simp⟩⟩
  · have hi' : i < vs.length := by rw [r.len]; simpa using hi
    exact ⟨vs, vs[i], .of (at' k), List.getElem?_eq_getElem hi'⟩
  · obtain ⟨T, x', rfl, hT, rfl, y⟩ := y
    rw [getElem?_mapIdx'] at hd
    cases e : ds[i]? with
    | none => rw [e] at hd; cases hd
    | some d0 =>
      rw [e] at hd
      cases hd
      obtain ⟨v, e1, rv⟩ := (Reps.keep _ r k).get0 e
      have := y vs (.of (at' k))
      rw [e1] at this
      cases this
      exact ⟨fun b o eb => by rw [upd_ne (ne_of_none eb hT)]; exact eb, reps_pair (rep_at rfl 0 fun _ => rfl) rv hT⟩
theorem wk_enumT {a : Addr} {vs : List V} {ds : List D} (hs : SqT K H a vs) (r : Reps K Z H ds 0 vs (fun _ => 0)) : Wk K Z H (IteT K a) (ds.mapIdx fun i d => .tup [.int i, d]) := by
  have at' : ∀ {Z' H'}, Kp Z Z' H H' (fun _ => 0) → SqT K H' a vs := fun k => sqT_keep k hs
  refine ⟨fun i Z' H' hi k => ?_, fun i d Z' H' x H'' hd k y => ?_, fun Z' H' k => ⟨vs, at' k, by rw [r.len]; simp⟩⟩
  · have hi' : i < vs.length := by rw [r.len]; simpa using hi
    exact ⟨vs, vs[i], at' k, List.getElem?_eq_getElem hi'⟩
  · obtain ⟨T, x', rfl, hT, rfl, y⟩ := y
    rw [getElem?_mapIdx'] at hd
    cases e : ds[i]? with
    | none => rw [e] at hd; cases hd
    | some d0 =>
      rw [e] at hd
      cases hd
      obtain ⟨v, e1, rv⟩ := (Reps.keep _ r k).get0 e
      have := y vs (at' k)
      rw [e1] at this
      cases this
      exact ⟨fun b o eb => by rw [upd_ne (ne_of_none eb hT)]; exact eb, reps_pair (rep_at rfl 0 fun _ => rfl) rv hT⟩
theorem wk_zipL {a b : Addr} {vs ws : List V} {ds es : List D} (h : Z a) (hH : H a = some (.lst vs)) (r : Reps K Z H ds 0 vs (fun _ => 0)) (h2 : Z b) (hH2 : H b = some (.lst ws)) (r2 : Reps K Z H es 0 ws (fun _ => 0)) : Wk K Z H (Itz K a b) (List.zipWith (fun d e => .tup [d, e]) ds es) := by
  have at' : ∀ {Z' H'}, Kp Z Z' H H' (fun _ => 0) → H' a = some (.lst vs) := fun k => k.h a _ hH (.inr (.inl h)) (fun _ z => by cases z)
  have bt' : ∀ {Z' H'}, Kp Z Z' H H' (fun _ => 0) → H' b = some (.lst ws) := fun k => k.h b _ hH2 (.inr (.inl h2)) (fun _ z => by cases z)
  refine ⟨fun i Z' H' hi k => ?_, fun i d Z' H' x H'' hd k y => ?_, fun Z' H' k => ⟨vs, ws, .of (at' k), .of (bt' k), ?_⟩⟩
  · rw [List.length_zipWith] at hi
    have hi1 : i < vs.length := by rw [r.len]; omega
    have hi2 : i < ws.length := by rw [r2.len]; omega
    exact ⟨vs, ws, vs[i], ws[i], .of (at' k), .of (bt' k), List.getElem?_eq_getElem hi1, List.getElem?_eq_getElem hi2⟩
  · obtain ⟨T, x', y', rfl, hT, rfl, y1, y2⟩ := y
    rw [List.getElem?_zipWith] at hd
    cases e : ds[i]? with
    | none => rw [e] at hd; cases hd
    | some d0 =>
      cases e' : es[i]? with
      | none => rw [e, e'] at hd; cases hd
      | some d1 =>
        rw [e, e'] at hd
        cases hd
        obtain ⟨v, q1, rv⟩ := (Reps.keep _ r k).get0 e
        obtain ⟨v', q2, rv'⟩ := (Reps.keep _ r2 k).get0 e'
        have z1 := y1 vs (.of (at' k))
        have z2 := y2 ws (.of (bt' k))
        rw [q1] at z1; rw [q2] at z2
        cases z1; cases z2
        exact ⟨fun b o eb => by rw [upd_ne (ne_of_none eb hT)]; exact eb, reps_pair rv rv' hT⟩
  · rw [r.len, r2.len, List.length_zipWith]; omega
theorem wk_zipT {a b : Addr} {vs ws : List V} {ds es : List D} (hH : SqT K H a vs) (r : Reps K Z H ds 0 vs (fun _ => 0)) (hH2 : SqT K H b ws) (r2 : Reps K Z H es 0 ws (fun _ => 0)) : Wk K Z H (RZ.ItzT K a b) (List.zipWith (fun d e => .tup [d, e]) ds es) := by
  have at' : ∀ {Z' H'}, Kp Z Z' H H' (fun _ => 0) → SqT K H' a vs := fun k => sqT_keep k hH
  have bt' : ∀ {Z' H'}, Kp Z Z' H H' (fun _ => 0) → SqT K H' b ws := fun k => sqT_keep k hH2
  refine ⟨fun i Z' H' hi k => ?_, fun i d Z' H' x H'' hd k y => ?_, fun Z' H' k => ⟨vs, ws, at' k, bt' k, ?_⟩⟩
  · rw [List.length_zipWith] at hi
    have hi1 : i < vs.length := by rw [r.len]; omega
    have hi2 : i < ws.length := by rw [r2.len]; omega
    exact ⟨vs, ws, vs[i], ws[i], at' k, bt' k, List.getElem?_eq_getElem hi1, List.getElem?_eq_getElem hi2⟩
  · obtain ⟨T, x', y', rfl, hT, rfl, y1, y2⟩ := y
    rw [List.getElem?_zipWith] at hd
    cases e : ds[i]? with
    | none => rw [e] at hd; cases hd
    | some d0 =>
      cases e' : es[i]? with
      | none => rw [e, e'] at hd; cases hd
      | some d1 =>
        rw [e, e'] at hd
        cases hd
        obtain ⟨v, q1, rv⟩ := (Reps.keep _ r k).get0 e
        obtain ⟨v', q2, rv'⟩ := (Reps.keep _ r2 k).get0 e'
        have z1 := y1 vs (at' k)
        have z2 := y2 ws (bt' k)
        rw [q1] at z1; rw [q2] at z2
        cases z1; cases z2
        exact ⟨fun b o eb => by rw [upd_ne (ne_of_none eb hT)]; exact eb, reps_pair rv rv' hT⟩
  · rw [r.len, r2.len, List.length_zipWith]; omega
end
section
variable {X : Cx} {T : List (Addr × Str)} {W : Wsh} {a b c e tg : Expr} {f g : M VD} {fs : M (List VD)} {pos p tpos : Pos} {x : Str} {elts : List Expr} {kk : Nat} {hS : En → Option D}
theorem di_enum (hg : Gl X "enumerate") (hm : X.mg "enumerate" = none) (ha : DA X T W [e] fs) (hs : starEach [e] X.env = [(false, eval e X.env)] := by rfl) : DI X T W (.Tuple elts kk tpos) (.Call (.Name "enumerate" p) [e] [] pos) (opI enumO fs) := by
  refine PI.imp (PI.or (pi_enum hg hm ha hs) (pi_enumT hg hm ha hs)) fun σ H R h => ?_
  obtain ⟨Z, S, ρ, sit, h⟩ := h
  unfold opI at h
  cases e1 : fs ρ with
  | no => rw [e1] at h; exact h.elim
  | ex x => rw [e1] at h; exact .inl ⟨Z, S, ρ, sit, by rw [e1]; exact h⟩
  | ok ds ρ1 =>
    rw [e1] at h
    cases e2 : enumO ds with
    | none => simp only [e2] at h
    | some res =>
      simp only [e2] at h
      unfold enumO at e2
      split at e2
      · cases e2
        refine .inl ⟨Z, S, ρ, sit, ?_⟩
        rw [e1]
        intro vs H1 Z1 R1 S1 s1 r1 g1 t1
        obtain ⟨Z2, s2, r2, t2⟩ := frozenL s1 r1 g1 t1
        obtain ⟨v, rfl⟩ := repk1 r1
        have q := reps1 r2
        simp only [Rep] at q
        obtain ⟨a, us, rfl, ⟨za, hH⟩, rs⟩ := q
        exact ⟨a, us, rfl, .of hH, h _ H1 Z2 S1 s2 t2 (wk_enumL za hH rs)⟩
      · cases e2
        refine .inr ⟨Z, S, ρ, sit, ?_⟩
        rw [e1]
        intro vs H1 Z1 R1 S1 s1 r1 g1 t1
        obtain ⟨Z2, s2, r2, t2⟩ := frozenL s1 r1 g1 t1
        obtain ⟨v, rfl⟩ := repk1 r1
        obtain ⟨a, us, rfl, hs', rs⟩ := rep_tup0 (reps1 r2)
        exact ⟨a, us, rfl, hs', h _ H1 Z2 S1 s2 t2 (wk_enumT hs' rs)⟩
      · cases e2
def zipO2 : List VD → Option (List D)
  | [(.lst ds, _), (.lst es, _)] => some (List.zipWith (fun d e => .tup [d, e]) ds es)
  | [(.tup ds, _), (.tup es, _)] => some (List.zipWith (fun d e => .tup [d, e]) ds es)
  | _ => none
theorem di_zip (hg : Gl X "zip") (hm : X.mg "zip" = none) (ha : DA X T W [a, b] fs) (hs : starEach [a, b] X.env = (false, eval a X.env) :: starEach [b] X.env := by rfl) (hpl : (backTo pos (starEach [b] X.env)).any (·.1) = false := by rfl) : DI X T W (.Tuple elts kk tpos) (.Call (.Name "zip" p) [a, b] [] pos) (opI zipO2 fs) := by
  refine PI.imp (RZ.pi_zipA hg hm ha hs hpl) fun σ H R h => ?_
  obtain ⟨Z, S, ρ, sit, h⟩ := h
  refine ⟨Z, S, ρ, sit, ?_⟩
  unfold opI at h
  cases e1 : fs ρ with
  | no => rw [e1] at h; exact h.elim
  | ex x => rw [e1] at h; exact h
  | ok ds ρ1 =>
    rw [e1] at h
    intro vs H1 Z1 R1 S1 s1 r1 g1 t1
    cases e2 : zipO2 ds with
    | none => simp only [e2] at h
    | some res =>
      simp only [e2] at h
      obtain ⟨Z2, s2, r2, t2⟩ := frozenL s1 r1 g1 t1
      unfold zipO2 at e2
      split at e2
      · cases e2
        obtain ⟨v, w, rfl⟩ := repk2 r1
        obtain ⟨q1, q2⟩ := reps2 r2
        simp only [Rep] at q1 q2
        obtain ⟨a, us, rfl, ⟨za, hH⟩, rs⟩ := q1
        obtain ⟨b, ws, rfl, ⟨zb, hH'⟩, rs'⟩ := q2
        exact ⟨a, b, us, ws, rfl, .inl ⟨.of hH, .of hH', h _ H1 Z2 S1 s2 t2 (wk_zipL za hH rs zb hH' rs')⟩⟩
      · cases e2
        obtain ⟨v, w, rfl⟩ := repk2 r1
        obtain ⟨q1, q2⟩ := reps2 r2
        obtain ⟨a, us, rfl, hH, rs⟩ := rep_tup0 q1
        obtain ⟨b, ws, rfl, hH', rs'⟩ := rep_tup0 q2
        exact ⟨a, b, us, ws, rfl, .inr ⟨hH, hH', h _ H1 Z2 S1 s2 t2 (wk_zipT hH rs hH' rs')⟩⟩
      · cases e2
/-! list(range(..)), tuple(range(..)) -/
def rgO1 (mk : List D → VD) : List D → Option VD
  | [.int n] => if -1000000 ≤ n ∧ n ≤ 1000000 then some (mk (rngD 0 n.toNat)) else none
  | _ => none
def rgO2 (mk : List D → VD) : List D → Option VD
  | [.int a, .int b] => if -1000000 ≤ a ∧ a ≤ 1000000 ∧ -1000000 ≤ b ∧ b ≤ 1000000 then some (mk (rngD a (b - a).toNat)) else none
  | _ => none
def mkL (ds : List D) : VD := (.lst ds, 1)
def mkT (ds : List D) : VD := (.tup ds, 0)
def stO (o : List D → Option VD) (h : En → Option (List D)) : M VD := fun ρ => match (h ρ).bind o with | some dk => .ok dk ρ | none => .no
theorem rgV_rngD {K : PySem.W.Frag} {Z : Addr → Prop} {H : Hp} (a : Int) (b : Int) : Reps K Z H (rngD a (b - a).toNat) 0 (rgV a b) (fun _ => 0) := by
  have e1 : rngD a (b - a).toNat = ((List.range (b - a).toNat).map fun (i : Nat) => a + (i : Int)).map D.int := by
    unfold rngD; rw [List.map_map]; rfl
  have e2 : rgV a b = ((List.range (b - a).toNat).map fun (i : Nat) => a + (i : Int)).map V.int := by
    unfold rgV; rw [List.map_map]; rfl
  rw [e1, e2]
  exact reps_ints _
theorem fin_newS {σ : L2.St} {ρ : En} {Z : Addr → Prop} {H : Hp} {S : Ft} {Q : VK} {dk : VD} {v : V} {H2 : Hp} {Z2 : Addr → Prop} {R2 : Ft} {K : PySem.W.Frag} (h : Fin K T σ ρ dk Z H S Q) (s1 : Sit K T Z H S σ ρ)
    (tb : LamX.Tabs T H2) (r2 : Rep K Z2 H2 dk.1 dk.2 v R2) (g2 : Good Z2 H2 R2) (t2 : Tr Z H (fun _ => 0) Z2 H2 R2) : Q v H2 :=
  fin_new h s1 s1.good0 (Tr.refl fun b => by simp) tb r2 g2 t2
theorem de_rgL1 {p2 pos2 : Pos} (hc : X.calm = true) (hg : Gl X "list") (hm : X.mg "list" = none) (hg2 : Gl X "range") (hm2 : X.mg "range" = none) (ha : DS X T a hS)
    (na : starEach [a] X.env = (false, eval a X.env) :: starEach [] X.env := by rfl) (nb : starEach [.Call (.Name "range" p2) [a] [] pos2] X.env = (false, eval (.Call (.Name "range" p2) [a] [] pos2) X.env) :: starEach [] X.env := by rfl) :
    DE X T W (.Call (.Name "list" p) [.Call (.Name "range" p2) [a] [] pos2] [] pos) (stO (rgO1 mkL) (consS hS nilS)) := by
  refine PE.imp (pe_listRg hc hg hm (prg_1 hg2 hm2 ha na) nb) fun σ H Q h => ?_
  obtain ⟨Z, S, ρ, sit, h⟩ := h
  unfold stO consS nilS at h
  cases e1 : hS ρ with
  | none => simp only [e1] at h; exact h.elim
  | some d =>
    simp only [e1, Option.bind_some] at h
    unfold rgO1 at h
    split at h
    · rename_i dk ρ' e2
      split at e2
      · rename_i dk' e3
        cases e2
        split at e3
        · rename_i n en
          cases en
          split at e3
          · rename_i hb
            cases e3
            refine ⟨Z, S, ρ, .int n, sit, e1, fun v hv => ?_⟩
            simp only [Vw] at hv
            subst hv
            refine ⟨n, rfl, ⟨by omega, by omega, by omega, by omega, by omega⟩, fun q hq => ?_⟩
            have g0 : Good Z H (fun _ => 0) := sit.gd.le fun b => Nat.zero_le _
            refine newL (k := 1) (R := fun _ => 0) (ds := rngD 0 n.toNat) sit.tb ?_ g0 (Tr.refl fun b => Nat.le_refl _) hq fun v' H' Z' R' tb r g t => fin_newS h sit tb r g t
            have := rgV_rngD (K := X.K) (Z := Z) (H := H) 0 n
            rw [Int.sub_zero] at this
            exact this
          · cases e3
        · cases e3
      · cases e2
    · rename_i e2; split at e2 <;> cases e2
    · exact h.elim
theorem de_rgT1 {p2 pos2 : Pos} (hc : X.calm = true) (hg : Gl X "tuple") (hm : X.mg "tuple" = none) (hg2 : Gl X "range") (hm2 : X.mg "range" = none) (ha : DS X T a hS)
    (na : starEach [a] X.env = (false, eval a X.env) :: starEach [] X.env := by rfl) (nb : starEach [.Call (.Name "range" p2) [a] [] pos2] X.env = (false, eval (.Call (.Name "range" p2) [a] [] pos2) X.env) :: starEach [] X.env := by rfl) :
    DE X T W (.Call (.Name "tuple" p) [.Call (.Name "range" p2) [a] [] pos2] [] pos) (stO (rgO1 mkT) (consS hS nilS)) := by
  refine PE.imp (pe_tupRg hc hg hm (prg_1 hg2 hm2 ha na) nb) fun σ H Q h => ?_
  obtain ⟨Z, S, ρ, sit, h⟩ := h
  unfold stO consS nilS at h
  cases e1 : hS ρ with
  | none => simp only [e1] at h; exact h.elim
  | some d =>
    simp only [e1, Option.bind_some] at h
    unfold rgO1 at h
    split at h
    · rename_i dk ρ' e2
      split at e2
      · rename_i dk' e3
        cases e2
        split at e3
        · rename_i n en
          cases en
          split at e3
          · rename_i hb
            cases e3
            refine ⟨Z, S, ρ, .int n, sit, e1, fun v hv => ?_⟩
            simp only [Vw] at hv
            subst hv
            refine ⟨n, rfl, ⟨by omega, by omega, by omega, by omega, by omega⟩, fun q hq => ?_⟩
            have g0 : Good Z H (fun _ => 0) := sit.gd.le fun b => Nat.zero_le _
            refine newT (R := fun _ => 0) (ds := rngD 0 n.toNat) sit.tb ?_ g0 (Tr.refl fun b => Nat.le_refl _) hq fun v' H' Z' R' tb r g t => fin_newS h sit tb r g t
            have := rgV_rngD (K := X.K) (Z := Z) (H := H) 0 n
            rw [Int.sub_zero] at this
            exact this
          · cases e3
        · cases e3
      · cases e2
    · rename_i e2; split at e2 <;> cases e2
    · exact h.elim
end
end Em
set_option Elab.async false
set_option linter.all false
set_option maxRecDepth 100000
set_option maxHeartbeats 4000000
/-! Em 11: choices, lengths, not, count and index. -/
namespace Em
open PySem L2 PyProof.Rows

theorem PE.or {X : Cx} {e : Expr} {t t' : TE} (h : PE X e t) (h' : PE X e t') : PE X e (fun σ H Q => t σ H Q ∨ t' σ H Q) := ⟨fun pins s σ H Q I q => q.elim (h.run pins s σ H Q I) (h'.run pins s σ H Q I)⟩
/-- what is an atom is only read -/
def chM (h : En → Option D) (f : M VD) : M VD := fun ρ => match (h ρ).bind fun d => (toV d).map fun _ => d with
  | some d => .ok (d, 0) ρ
  | none => f ρ
def notM (f : M VD) : M VD := fun ρ => match f ρ with | .ok (.bl b, _) ρ1 => .ok (.bl (!b), 0) ρ1 | .ok _ _ => .no | .ex x => .ex x | .no => .no
structure LenM (fs : M (List VD)) (n : Nat) : Prop where
  h : ∀ ρ ds ρ1, fs ρ = .ok ds ρ1 → ds.length = n
theorem lenM_nil : LenM nilM 0 := ⟨fun ρ ds ρ1 h => by cases h; rfl⟩
theorem lenM_cons {f : M VD} {g : M (List VD)} {n : Nat} (h : LenM g n) : LenM (consM f g) (n + 1) := ⟨fun ρ ds ρ1 e => by
  unfold consM at e
  cases e1 : f ρ with
  | no => rw [e1] at e; cases e
  | ex x => rw [e1] at e; cases e
  | ok d ρ2 =>
    rw [e1] at e
    dsimp only at e
    cases e2 : g ρ2 with
    | no => rw [e2] at e; cases e
    | ex x => rw [e2] at e; cases e
    | ok dr ρ3 => rw [e2] at e; cases e; rw [List.length_cons, h.h _ _ _ e2]⟩
section
variable {X : Cx} {T : List (Addr × Str)} {W : Wsh} {a b c e : Expr} {f g : M VD} {fs : M (List VD)} {pos p : Pos} {x : Str} {hS gS : En → Option D}
theorem de_ch (hs : DS X T e hS) (he : DE X T W e f) : DE X T W e (chM hS f) := by
  refine PE.imp (PE.or hs he) fun σ H Q q => ?_
  obtain ⟨Z, S, ρ, sit, q⟩ := q
  unfold chM at q
  cases e1 : hS ρ with
  | none => simp only [e1, Option.bind_none] at q; exact .inr ⟨Z, S, ρ, sit, q⟩
  | some d =>
    cases e2 : toV d with
    | none => simp only [e1, Option.bind_some, e2, Option.map_none] at q; exact .inr ⟨Z, S, ρ, sit, q⟩
    | some v =>
      simp only [e1, Option.bind_some, e2, Option.map_some] at q
      exact .inl ⟨Z, S, ρ, d, sit, e1, fun w hw => by rw [at_vw e2 hw]; exact Fin.at q sit e2⟩
theorem de_not (h : DE X T W a f) : DE X T W (.UnaryOp .Not a pos) (notM f) := by
  refine PE.imp (pe_not h) fun σ H Q q => ?_
  obtain ⟨Z, S, ρ, sit, q⟩ := q
  refine ⟨Z, S, ρ, sit, ?_⟩
  unfold notM at q
  cases e : f ρ with
  | no => rw [e] at q; exact q
  | ex x => rw [e] at q; exact q
  | ok dk ρ1 =>
    obtain ⟨d, k⟩ := dk
    rw [e] at q
    cases d with
    | bl c =>
      intro v H1 Z1 R S1 s1 r g1 t1
      exact ⟨c, at_rep rfl r, q _ H1 Z1 (fun _ => 0) S1 s1 (rep_at rfl _ fun _ => rfl) s1.good0 (t1.le fun b => by show 0 + S1 b ≤ _; omega)⟩
    | _ => exact q.elim
/-! count, index of flat items -/
def rCntL (K : PySem.W.Frag) : V → List V → Hp → VK → Prop := fun x xs H Q => ∃ (p : Addr) (ys : List V) (y : V), x = .ref p ∧ xs = [y] ∧ SqL K H p ys ∧ flatV y = true ∧ ys.all flatV = true ∧ Q (.int ((ys.countP fun z => eqV z y : Nat) : Int)) H
def rCntT (K : PySem.W.Frag) : V → List V → Hp → VK → Prop := fun x xs H Q => ∃ (p : Addr) (ys : List V) (y : V), x = .ref p ∧ xs = [y] ∧ SqT K H p ys ∧ flatV y = true ∧ ys.all flatV = true ∧ Q (.int ((ys.countP fun z => eqV z y : Nat) : Int)) H
theorem countP_eqU {y : V} : ∀ {ys : List V} {us : List Value}, Vals ys us → ys.all flatV = true → us.countP (eqU y) = ys.countP fun z => eqV z y
  | [], [], _, _ => rfl
  | z :: ys, u :: us, .cons r t, f => by
    have f' : flatV z = true ∧ ys.all flatV = true := by simpa using f
    rw [List.countP_cons, List.countP_cons, countP_eqU t f'.2, eqU_of r f'.1]
theorem mt_count : MtR X "list.count" (rCntL X.K) := by
  intro pins s σ H x xs v us Q I rx rxs h
  obtain ⟨p, ys, y, rfl, rfl, hs, fy, fys, q⟩ := h
  cases rx
  obtain ⟨u, rfl, ru⟩ := rxs.one
  obtain ⟨its, rv, ⟨⟨cls, dd, data, sl⟩, n, ho, hc, hdn, hd⟩, hlen⟩ := I.list hs
  simp only at hc hd
  subst hc hd
  refine call_meets PySem.F.slot_list_count ⟨_, ho, rfl⟩ PySem.F.entry_list_count (PySem.F.args_list_count_2 _ _)
    (SeqAt.list_countAt p its.toArray n dd sl u (eqU y)) ⟨ho, fun u' hu' => mem_eqAt ru fy rv fys u' (by simpa using hu'), ?_⟩
  refine ⟨.int ((ys.countP fun z => eqV z y : Nat) : Int), H, I.tok _, ⟨s.toks, ?_⟩, q⟩
  show Value.int ((its.toArray.toList.countP (eqU y) : Nat) : Int) s.toks = _
  rw [show its.toArray.toList = its from rfl, countP_eqU rv fys]
theorem mt_tcount : MtR X "tuple.count" (rCntT X.K) := by
  intro pins s σ H x xs v us Q I rx rxs h
  obtain ⟨p, ys, y, rfl, rfl, hs, fy, fys, q⟩ := h
  cases rx
  obtain ⟨u, rfl, ru⟩ := rxs.one
  obtain ⟨its, rv, ⟨⟨cls, dd, data, sl⟩, ho, hc, n, hd⟩, hlen⟩ := I.tuple hs
  simp only at hc hd
  subst hc hd
  refine call_meets PySem.F.slot_tuple_count ⟨_, ho, rfl⟩ PySem.F.entry_tuple_count (PySem.F.args_tuple_count_2 _ _)
    (SeqAt.tuple_countAt p its.toArray n dd sl u (eqU y)) ⟨ho, fun u' hu' => mem_eqAt ru fy rv fys u' (by simpa using hu'), ?_⟩
  refine ⟨.int ((ys.countP fun z => eqV z y : Nat) : Int), H, I.tok _, ⟨s.toks, ?_⟩, q⟩
  show Value.int ((its.toArray.toList.countP (eqU y) : Nat) : Int) s.toks = _
  rw [show its.toArray.toList = its from rfl, countP_eqU rv fys]
def cntA (ds : List D) (d : D) : Option D := (toV d).bind fun y => (atoms ds).map fun ys => .int ((ys.countP fun z => eqV z y : Nat) : Int)
def idxA (ds : List D) (d : D) : Option D := (toV d).bind fun y => (atoms ds).bind fun ys => (ys.findIdx? fun z => eqV z y).map fun (j : Nat) => .int (j : Int)
theorem cntA_of {ds : List D} {d r : D} (e : cntA ds d = some r) : ∃ y ys, toV d = some y ∧ atoms ds = some ys ∧ r = .int ((ys.countP fun z => eqV z y : Nat) : Int) := by
  unfold cntA at e
  cases e1 : toV d with
  | none => rw [e1] at e; cases e
  | some y =>
    cases e2 : atoms ds with
    | none => rw [e1, e2] at e; cases e
    | some ys => rw [e1, e2] at e; cases e; exact ⟨y, ys, rfl, rfl, rfl⟩
/-- a method of one argument that hands back an atom -/
def methM (ty : D → Bool) (o : D → D → Option D) (f g : M VD) : M VD := fun ρ => match f ρ with
  | .ok dk ρ1 => if ty dk.1 = true then (match g ρ1 with
    | .ok dk2 ρ2 => (match o dk.1 dk2.1 with | some r => .ok (r, 0) ρ2 | none => .no)
    | .ex x => .ex x
    | .no => .no) else .no
  | .ex x => .ex x
  | .no => .no
theorem de_meth {Ty nm id : String} {r : V → List V → Hp → VK → Prop} {ty : D → Bool} {o : D → D → Option D} {name : Str} {apos cpos : Pos} (pa : PlainAttrs Ty) (slot : Slot Ty name id) (hty : typeOf (.builtin id) = pure (.type "method_descriptor")) (hm : MtR X id r)
    (ho : ∀ (H : Hp) (d d2 : D) (v w : V) (res : D), Vw X.K H d v → Vw X.K H d2 w → o d d2 = some res → ∃ u, toV res = some u ∧ ∀ Q : VK, Q u H → r v [w] H Q)
    (hot : ∀ (H : Hp) (d : D) (v : V), Vw X.K H d v → ty d = true → tyV X.K Ty v H)
    (ha : DE X T W a f) (hb : DE X T W b g)
    (hbase : attributeBase a name X.env (eval a X.env) = eval a X.env := by rfl)
    (hfew : ((backTo cpos (starEach [b] X.env)).all (fun x => !x.1) && (backToKw cpos (keywordEach [] X.env)).all (fun x => x.1.isSome)
      && decide (([b] : List Expr).length + ([] : List Keyword).length + (if ([] : List Keyword).isEmpty then 0 else 1) < 30)) = true := by rfl)
    (hline : (apos.endLine == cpos.line) = true := by rfl) (hst : starEach [b] X.env = (false, eval b X.env) :: starEach [] X.env := by rfl) (hplain : (backTo cpos (starEach [] X.env)).any (·.1) = false := by rfl) :
    DE X T W (.Call (.Attribute a name apos) [b] [] cpos) (methM ty o f g) := by
  refine PE.imp (pe_bm pa slot hty hm ha (pa_cons hb pa_nil hst) hbase hfew hline hst hplain) fun σ H Q q => ?_
  obtain ⟨Z, S, ρ, sit, q⟩ := q
  refine ⟨Z, S, ρ, sit, ?_⟩
  unfold methM at q
  cases e1 : f ρ with
  | no => rw [e1] at q; exact q
  | ex x => rw [e1] at q; exact q
  | ok dk ρ1 =>
    rw [e1] at q
    dsimp only at q
    intro v H1 Z1 R S1 s1 r1 g1 t1
    by_cases ht : ty dk.1 = true
    case neg => rw [if_neg ht] at q; exact q.elim
    rw [if_pos ht] at q
    refine ⟨hot H1 _ v (Rep.vw _ r1) ht, Z1, S1, ρ1, s1, ?_⟩
    cases e2 : g ρ1 with
    | no => rw [e2] at q; exact q
    | ex x => rw [e2] at q; exact fun C H' hm ht hx => q C H' hm ht (t1.thenX hx fun x => Nat.le_add_left _ _)
    | ok dk2 ρ2 =>
      rw [e2] at q
      dsimp only at q
      intro w H2 Z2 R2 S2 s2 r2 g2 t2
      cases e3 : o dk.1 dk2.1 with
      | none => rw [e3] at q; exact q.elim
      | some res =>
        rw [e3] at q
        obtain ⟨u, hu, hq⟩ := ho H2 dk.1 dk2.1 v w res (Rep.vw _ (Rep.keep _ r1 (g1.kp t2))) (Rep.vw _ r2) e3
        exact hq Q (q u H2 Z2 (fun _ => 0) S2 s2 (rep_at hu _ fun _ => rfl) s2.good0 ((t1.trans (t2.hold R)).le fun b => by show 0 + S2 b ≤ R b + (R2 b + S2 b); omega))
def isLst : D → Bool | .lst _ => true | _ => false
def isTup : D → Bool | .tup _ => true | _ => false
def cntO : D → D → Option D
  | .lst ds, d => cntA ds d
  | _, _ => none
def tcntO : D → D → Option D
  | .tup ds, d => cntA ds d
  | _, _ => none
def idxO : D → D → Option D
  | .lst ds, d => idxA ds d
  | _, _ => none
theorem lst_ty {K : PySem.W.Frag} {H : Hp} {d : D} {v : V} (h : Vw K H d v) (t : isLst d = true) : tyV K "list" v H := by
  cases d with
  | lst ds =>
    obtain ⟨a, vs, rfl, hs, _⟩ := vw_lst h
    exact .inl ⟨rfl, _, hs⟩
  | _ => cases t
theorem de_count {apos cpos : Pos} (ha : DE X T W a f) (hb : DE X T W b g)
    (hbase : attributeBase a "count" X.env (eval a X.env) = eval a X.env := by rfl)
    (hfew : ((backTo cpos (starEach [b] X.env)).all (fun x => !x.1) && (backToKw cpos (keywordEach [] X.env)).all (fun x => x.1.isSome)
      && decide (([b] : List Expr).length + ([] : List Keyword).length + (if ([] : List Keyword).isEmpty then 0 else 1) < 30)) = true := by rfl)
    (hline : (apos.endLine == cpos.line) = true := by rfl) (hst : starEach [b] X.env = (false, eval b X.env) :: starEach [] X.env := by rfl) (hplain : (backTo cpos (starEach [] X.env)).any (·.1) = false := by rfl) :
    DE X T W (.Call (.Attribute a "count" apos) [b] [] cpos) (methM isLst cntO f g) :=
  de_meth (nm := "count") PySem.F.plainAttrs_list PySem.F.slot_list_count PySem.F.type_list_count mt_count (fun H d d2 v w res h1 h2 e => by
    cases d with
    | lst ds =>
      obtain ⟨y, ys, ey, eys, rfl⟩ := cntA_of (show cntA ds d2 = some res from e)
      obtain ⟨p, vs, rfl, hs, hv⟩ := vw_lst h1
      rw [vws_atoms eys hv] at hs
      rw [at_vw ey h2]
      exact ⟨_, rfl, fun Q q => ⟨p, ys, y, rfl, rfl, hs, toV_flat ey, atoms_flat eys, q⟩⟩
    | _ => cases e) (fun H d v h t => lst_ty h t) ha hb hbase hfew hline hst hplain
theorem findIdx_of {α : Type} {p : α → Bool} : ∀ {l : List α} {j : Nat}, l.findIdx? p = some j → ∃ x, l[j]? = some x ∧ p x = true ∧ ∀ (m : Nat) (y : α), m < j → l[m]? = some y → p y = false
  | [], j, h => by cases h
  | a :: r, j, h => by
    rw [List.findIdx?_cons] at h
    by_cases c : p a = true
    · rw [if_pos c] at h
      cases h
      exact ⟨a, rfl, c, fun m y hm => absurd hm (Nat.not_lt_zero _)⟩
    · rw [if_neg c] at h
      cases e : r.findIdx? p with
      | none => rw [e] at h; cases h
      | some k =>
        rw [e] at h
        cases h
        obtain ⟨x, h1, h2, h3⟩ := findIdx_of e
        refine ⟨x, by simpa using h1, h2, fun m y hm hy => ?_⟩
        cases m with
        | zero => simp at hy; subst hy; exact Bool.eq_false_iff.mpr c
        | succ m => exact h3 m y (Nat.lt_of_succ_lt_succ hm) (by simpa using hy)
theorem de_index {apos cpos : Pos} (ha : DE X T W a f) (hb : DE X T W b g)
    (hbase : attributeBase a "index" X.env (eval a X.env) = eval a X.env := by rfl)
    (hfew : ((backTo cpos (starEach [b] X.env)).all (fun x => !x.1) && (backToKw cpos (keywordEach [] X.env)).all (fun x => x.1.isSome)
      && decide (([b] : List Expr).length + ([] : List Keyword).length + (if ([] : List Keyword).isEmpty then 0 else 1) < 30)) = true := by rfl)
    (hline : (apos.endLine == cpos.line) = true := by rfl) (hst : starEach [b] X.env = (false, eval b X.env) :: starEach [] X.env := by rfl) (hplain : (backTo cpos (starEach [] X.env)).any (·.1) = false := by rfl) :
    DE X T W (.Call (.Attribute a "index" apos) [b] [] cpos) (methM isLst idxO f g) :=
  de_meth (nm := "index") PySem.F.plainAttrs_list PySem.F.slot_list_index PySem.F.type_list_index mt_index (fun H d d2 v w res h1 h2 e => by
    cases d with
    | lst ds =>
      have e : idxA ds d2 = some res := e
      unfold idxA at e
      cases ey : toV d2 with
      | none => rw [ey] at e; cases e
      | some y =>
        cases eys : atoms ds with
        | none => rw [ey, eys] at e; cases e
        | some ys =>
          rw [ey, eys] at e
          simp only [Option.bind_some] at e
          cases ei : ys.findIdx? (fun z => eqV z y) with
          | none => rw [ei] at e; cases e
          | some j =>
            rw [ei] at e
            cases e
            obtain ⟨p, vs, rfl, hs, hv⟩ := vw_lst h1
            rw [vws_atoms eys hv] at hs
            rw [at_vw ey h2]
            obtain ⟨z, h3, h4, h5⟩ := findIdx_of ei
            exact ⟨_, rfl, fun Q q => ⟨p, ys, y, j, z, rfl, rfl, hs, toV_flat ey, atoms_flat eys, h3, h4, h5, q⟩⟩
    | _ => cases e) (fun H d v h t => lst_ty h t) ha hb hbase hfew hline hst hplain
end
end Em
set_option Elab.async false
set_option linter.all false
set_option maxRecDepth 100000
set_option maxHeartbeats 4000000
/-! Em 12: tuples of which it is known that they bear no dict: made by tuple(..), counted. -/
namespace Em
open PySem L2 PyProof.Rows
def ntD : D → D | .ntp xs => .tup xs | d => d
def ntM (f : M VD) : M VD := fun ρ => match f ρ with | .ok dk ρ1 => .ok (ntD dk.1, dk.2) ρ1 | .ex x => .ex x | .no => .no
def ntS (f : En → Option D) : En → Option D := fun ρ => (f ρ).map ntD
def ntplO : List VD → Option VD | [(.lst xs, _)] => some (.ntp xs, 0) | _ => none
section
variable {X : Cx} {T : List (Addr × Str)} {W : Wsh} {a b c e : Expr} {f g : M VD} {hS gS : En → Option D} {pos : Pos} {x : Str}
theorem rep_nt {K : PySem.W.Frag} {Z : Addr → Prop} {H : Hp} {d : D} {k : Nat} {v : V} {S : Ft} (h : Rep K Z H d k v S) : Rep K Z H (ntD d) k v S := by
  cases d with
  | ntp xs =>
    simp only [Rep] at h
    obtain ⟨a, vs, e, q, r⟩ := h
    simp only [ntD, Rep]
    exact ⟨a, vs, e, q.sq, r⟩
  | _ => exact h
theorem vw_nt {K : PySem.W.Frag} {H : Hp} {d : D} {v : V} (h : Vw K H d v) : Vw K H (ntD d) v := by
  cases d with
  | ntp xs =>
    simp only [Vw] at h
    obtain ⟨a, vs, e, q, r⟩ := h
    simp only [ntD, Vw]
    exact ⟨a, vs, e, q.sq, r⟩
  | _ => exact h
theorem de_nt (h : DE X T W e f) : DE X T W e (ntM f) := PE.imp h fun σ H Q q => by
  obtain ⟨Z, S, ρ, sit, q⟩ := q
  refine ⟨Z, S, ρ, sit, ?_⟩
  unfold ntM at q
  cases e1 : f ρ with
  | no => rw [e1] at q; exact q
  | ex x => rw [e1] at q; exact q
  | ok dk ρ1 =>
    rw [e1] at q
    exact fun v H' Z' R S' s r g t => q v H' Z' R S' s (rep_nt r) g t
theorem ds_nt (h : DS X T e hS) : DS X T e (ntS hS) := PE.imp h fun σ H Q q => by
  obtain ⟨Z, S, ρ, d, sit, e1, q⟩ := q
  unfold ntS at e1
  cases e2 : hS ρ with
  | none => rw [e2] at e1; cases e1
  | some d' =>
    rw [e2] at e1
    cases e1
    exact ⟨Z, S, ρ, d', sit, e2, fun v hv => q v (vw_nt hv)⟩
/-- tuple(a list): its object is told -/
theorem call_tupleN : CallR X (.type "tuple") (fun xs H Q => ∃ p ys, xs = [.ref p] ∧ SqL X.K H p ys ∧ ∀ l o, H l = none → o.cls = .type "tuple" → o.dict = none → Q (.ref l) (upd H l (.frz o (.tup ys)))) := by
  intro pins s σ H xs us Q I r h
  obtain ⟨p, ys, rfl, hq, q⟩ := h
  obtain ⟨u, rfl, rx⟩ := vals1 r
  cases rx
  obtain ⟨its, r', pl, hz⟩ := I.list hq
  have hlen := r'.length
  refine call_tuple_list pl.isList (fun h' kp => ?_) (by simp only [List.size_toArray] <;> omega)
  have I1 : Inv X pins σ H { s with heap := h' } := I.kept (t' := s.toks) kp
  have I2 : Inv X pins σ (upd H h'.objs.size (.frz { cls := .type "tuple", data := .seq its.toArray } (.tup ys))) { s with heap := h'.push { cls := .type "tuple", data := .seq its.toArray } } :=
    I1.laid (t' := s.toks) (fun b o e => Heap.get?_push_of_some _ e) (Nat.le_refl _) (show ObjOk X.prog X.w _ _ _ (.frz _ (.tup ys)) from ⟨Heap.get?_push_size _ rfl, ⟨hz, its, r', IsTup.new _ _⟩⟩)
  exact ⟨.ref h'.objs.size, _, I2, rfl, q _ _ (I1.hok.fresh (Nat.le_refl _)) rfl rfl⟩
theorem cd_ntpl : CalD X T (.type "tuple") ntplO := ⟨_, call_tupleN, by
  intro Z H R ds vs dk Q hr g tb e q
  unfold ntplO at e
  split at e
  · cases e
    obtain ⟨v, Z', rfl, r1, g', t⟩ := one_frozen hr g
    obtain ⟨a, as, rfl, ha, ra⟩ := rep_lst0 r1
    refine ⟨_, _, rfl, .of ha, fun p o hp hc hd => ?_⟩
    exact q _ _ Z' (fun _ => 0) (tabs_upd tb hp) (by simp only [Rep]; exact ⟨p, as, rfl, ⟨o, upd_same, hc, hd⟩, ra.keep _ (kp_upd hp)⟩) (g'.fresh0 hp) (t.trans (Tr.fresh0 hp))
  · cases e⟩
/-- the type of what is told -/
theorem tyVN_is {X : Cx} {pins : List (Addr × Obj)} {σ : L2.St} {H : Hp} {s : Shared} {p : Addr} {vs : List V} (I : Inv X pins σ H s) (h : NTp H p vs) :
    s.TypeIs (.ref p) "tuple" ∧ ∀ a, (Value.ref p) = .ref a → ∃ ob, s.heap.get? a = some ob ∧ ob.dict = none := by
  obtain ⟨o, h1, h2, h3⟩ := h
  obtain ⟨g, _⟩ := (show ObjOk X.prog X.w H s.heap p (.frz o (.tup vs)) from I.hok p _ h1)
  refine ⟨?_, fun a e => ?_⟩
  · obtain ⟨its, _, pl, _⟩ := I.tuple (.inl (.inr ⟨o, h1⟩))
    exact pl.typeIs
  · cases e
    exact ⟨o, g, h3⟩
def tBMN (K : PySem.W.Frag) (r : V → List V → Hp → VK → Prop) (to : TE) (t : TA) : TE := fun σ H Q => to σ H fun x H1 => (∃ p vs, x = .ref p ∧ NTp H1 p vs) ∧ t σ H1 fun xs H2 => r x xs H2 Q
theorem pe_bmN {o e : Expr} {es : List Expr} {to : TE} {t : TA} {name : Str} {apos cpos : Pos} {id : String} {r : V → List V → Hp → VK → Prop} (pa : PlainAttrs "tuple") (slot : Slot "tuple" name id) (hty : typeOf (.builtin id) = pure (.type "method_descriptor")) (hm : MtR X id r) (ho : PE X o to) (ha : PA X (e :: es) t)
    (hbase : attributeBase o name X.env (eval o X.env) = eval o X.env := by rfl)
    (hfew : ((backTo cpos (starEach (e :: es) X.env)).all (fun x => !x.1) && (backToKw cpos (keywordEach [] X.env)).all (fun x => x.1.isSome)
      && decide ((e :: es).length + ([] : List Keyword).length + (if ([] : List Keyword).isEmpty then 0 else 1) < 30)) = true := by rfl)
    (hline : (apos.endLine == cpos.line) = true := by rfl) (hs : starEach (e :: es) X.env = (false, eval e X.env) :: starEach es X.env := by rfl) (hplain : (backTo cpos (starEach es X.env)).any (·.1) = false := by rfl) :
    PE X (.Call (.Attribute o name apos) (e :: es) [] cpos) (tBMN X.K r to t) := by
  refine ⟨fun pins s σ H Q I h => ?_⟩
  refine wpAny_Call_method_late hbase hfew hline rfl (thn (ho.run pins s σ H _ I h) fun v s1 ⟨x, H1, I1, r1, ty, q1⟩ => ?_)
  obtain ⟨p, vs, rfl, hn⟩ := ty
  obtain rfl : v = Value.ref p := r1
  obtain ⟨h1, h2⟩ := tyVN_is I1 hn
  refine ⟨"tuple", id, pa, slot, hty, h1, h2, ?_⟩
  have hA := ha.run cpos pins s1 σ H1 _ I1 q1
  rw [hs] at hA ⊢
  refine Calls.callWith_builtin (by show (false || (backTo cpos (starEach es X.env)).any (·.1)) = false; rw [hplain] <;> rfl) (Calls.evalArgs_plain ?_)
  exact thn hA fun us s2 ⟨vs, H2, I2, r2, q2⟩ => hm pins s2 σ H2 (.ref p) vs (.ref p) us Q I2 rfl r2 q2
def isNtp : D → Bool | .ntp _ => true | _ => false
def ntcntO : D → D → Option D
  | .ntp ds, d => cntA ds d
  | _, _ => none
theorem de_tcount {apos cpos : Pos} (ha : DE X T W a f) (hb : DE X T W b g)
    (hbase : attributeBase a "count" X.env (eval a X.env) = eval a X.env := by rfl)
    (hfew : ((backTo cpos (starEach [b] X.env)).all (fun x => !x.1) && (backToKw cpos (keywordEach [] X.env)).all (fun x => x.1.isSome)
      && decide (([b] : List Expr).length + ([] : List Keyword).length + (if ([] : List Keyword).isEmpty then 0 else 1) < 30)) = true := by rfl)
    (hline : (apos.endLine == cpos.line) = true := by rfl) (hst : starEach [b] X.env = (false, eval b X.env) :: starEach [] X.env := by rfl) (hplain : (backTo cpos (starEach [] X.env)).any (·.1) = false := by rfl) :
    DE X T W (.Call (.Attribute a "count" apos) [b] [] cpos) (methM isNtp ntcntO f g) := by
  refine PE.imp (pe_bmN PySem.F.plainAttrs_tuple PySem.F.slot_tuple_count PySem.F.type_tuple_count mt_tcount ha (pa_cons hb pa_nil hst) hbase hfew hline hst hplain) fun σ H Q q => ?_
  obtain ⟨Z, S, ρ, sit, q⟩ := q
  refine ⟨Z, S, ρ, sit, ?_⟩
  unfold methM at q
  cases e1 : f ρ with
  | no => rw [e1] at q; exact q
  | ex x => rw [e1] at q; exact q
  | ok dk ρ1 =>
    rw [e1] at q
    obtain ⟨d, k⟩ := dk
    dsimp only at q
    intro v H1 Z1 R S1 s1 r1 g1 t1
    by_cases ht : isNtp d = true
    case neg => rw [if_neg ht] at q; exact q.elim
    rw [if_pos ht] at q
    cases d with
    | ntp ds =>
      have r1' := r1
      simp only [Rep] at r1
      obtain ⟨p, vs, rfl, hn, rs⟩ := r1
      refine ⟨⟨p, vs, rfl, hn⟩, Z1, S1, ρ1, s1, ?_⟩
      cases e2 : g ρ1 with
      | no => rw [e2] at q; exact q
      | ex x => rw [e2] at q; exact fun C H' hm ht hx => q C H' hm ht (t1.thenX hx fun x => Nat.le_add_left _ _)
      | ok dk2 ρ2 =>
        rw [e2] at q
        dsimp only at q
        intro w H2 Z2 R2 S2 s2 r2 g2 t2
        cases e3 : ntcntO (.ntp ds) dk2.1 with
        | none => rw [e3] at q; exact q.elim
        | some res =>
          rw [e3] at q
          obtain ⟨y, ys, ey, eys, rfl⟩ := cntA_of (show cntA ds dk2.1 = some res from e3)
          have h1 : Vw X.K H2 (.ntp ds) (.ref p) := Rep.vw _ (Rep.keep _ r1' (g1.kp t2))
          simp only [Vw] at h1
          obtain ⟨p', vs', e', hs, hv⟩ := h1
          cases e'
          rw [vws_atoms eys hv] at hs
          have ew := at_vw ey (Rep.vw _ r2)
          subst ew
          exact ⟨p, ys, _, rfl, rfl, hs.sq, toV_flat ey, atoms_flat eys, q _ H2 Z2 (fun _ => 0) S2 s2 (rep_at rfl _ fun _ => rfl) s2.good0 ((t1.trans (t2.hold R)).le fun b => by show 0 + S2 b ≤ R b + (R2 b + S2 b); omega)⟩
    | _ => cases ht
end
end Em
set_option Elab.async false
set_option linter.all false
set_option maxRecDepth 100000
set_option maxHeartbeats 4000000
/-! Em 13: f(lambda: body). -/
namespace Em
open PySem PySem.Spec L2 LamX
/-- nothing known is lost -/
def Stay (H H1 : Hp) : Prop := ∀ b, H b ≠ none → H1 b ≠ none
section
variable {X : Cx} {pins : List (Addr × Obj)} {σ : L2.St} {H : Hp} {s : Shared}
/-- LamX.lam_make2, with what stays known -/
theorem lam_make3 {T : List (Addr × Str)} {c P : Addr} {params : Arguments} {body : Expr} {scope : Scope} {pos : Pos} {E : Value → Shared → Prop} {Q : Value → Shared → Prop} (I : Inv X pins σ H s) (TB : TabB X.base X.mg c P) (hcode : X.env.code = .ref c)
    (hm : (P, X.env.qual ++ "<lambda>") ∈ T) (hu : ∀ p ∈ T, p.1 = P → p.2 = X.env.qual ++ "<lambda>") (hT : Tabs T H) (hdef : defaultsOf params X.env = ([], [])) (hfree : ∀ y ∈ scope.names, y.2 = .free → ∃ c, X.env.cells.lookup y.1 = some c)
    (h : ∀ (f c' : Addr) (pm ctv : Value) (H1 : Hp) (s' : Shared), Inv X pins σ H1 s' → ExtN H H1 → Stay H H1 → Tabs T H1 →
      s'.heap.get? f = some (PySem.W.kla_obj "<lambda>" (X.env.qual ++ "<lambda>") params body scope (cloFrom X.env.cells scope.names []) pm c' ctv) → H1 f = none → f ∉ frs X.stack → H1 c' = some (CodeO c' (X.env.qual ++ "<lambda>")) → Q (.ref f) s') :
    wpAny (model X.prog X.w) X.A (eval (.Lambda params body scope pos) X.env) Q E s := by
  obtain ⟨ps, hP, ht, ha⟩ := hT _ hm
  refine PySem.W.kla_eval hdef ?_
  have bP : s.heap.BuiltinsAt X.mg P := TB.bm.keeps I.bk
  have hP' : s.heap.get? P = some { cls := .none, data := .fields ps } := I.hok P _ hP
  have nofr : ∀ f, s.heap.objs.size ≤ f → f ∉ frs X.stack := fun f hf z => by
    rcases List.mem_cons.mp (I.stkSub _ z) with e | e
    · have h1 := I.lt
      rw [← e] at h1
      exact Nat.lt_irrefl _ (Nat.lt_of_lt_of_le h1 hf)
    · exact I.nofs hf e
  cases hc : codeAmong pos ps.toList with
  | none =>
    refine PySem.W.kla_makeFunction (mg := X.mg) (c := c) (P := P) (ps := ps) (closure_ok hfree) I.ok.glob (I.mod.glob.keeps I.bk) hcode (TB.code.keeps I.bk) hP' ht hc TB.gP bP fun c' ctv h' tk hx hge hlt hrec htb => ?_
    obtain ⟨c2, oc, vs, t, e2, hoc, hd, hv⟩ := hrec
    cases e2
    have hsz : s.heap.objs.size ≤ h'.objs.size := Nat.le_trans hge (Nat.le_of_lt hlt)
    have nC : H c' = none := I.hok.fresh hge
    have I1 := inv_table (t' := tk) (more := #[rawInt pos.line, rawInt pos.col, .ref c']) (h' := h'.push (PySem.W.kla_obj "<lambda>" (X.env.qual ++ "<lambda>") params body scope (cloFrom X.env.cells scope.names []) ((X.mg "__name__").getD .none) c' ctv)) I hP
      (fun b o hb e => Heap.get?_push_of_some _ (hx b o hb e)) (Heap.get?_push_of_some _ htb) hge ⟨oc, vs, t, Heap.get?_push_of_some _ hoc, hd, hv⟩
    have hE : ExtN H (upd (upd H P (.tbl (ps ++ #[rawInt pos.line, rawInt pos.col, .ref c']))) c' (CodeO c' (X.env.qual ++ "<lambda>"))) := fun b o e n => by
      rw [upd_ne (ne_of_none e nC), upd_ne (fun z => n ps (Option.some.inj (e.symm.trans (by rw [z]; exact hP))))]
      exact e
    have hSt : Stay H (upd (upd H P (.tbl (ps ++ #[rawInt pos.line, rawInt pos.col, .ref c']))) c' (CodeO c' (X.env.qual ++ "<lambda>"))) := fun b n => by
      by_cases e1 : b = c'
      · rw [e1, upd_same]; simp
      · rw [upd_ne e1]
        by_cases e2 : b = P
        · rw [e2, upd_same]; simp
        · rw [upd_ne e2]; exact n
    have eL : (ps ++ #[rawInt pos.line, rawInt pos.col, .ref c']).toList = ps.toList ++ [rawInt pos.line, rawInt pos.col, .ref c'] := by simp
    refine h h'.objs.size c' ((X.mg "__name__").getD .none) ctv _ _ I1 hE hSt (fun p hp => ?_) (Heap.get?_push_size _ rfl) ?_ (nofr _ hsz) upd_same
    · by_cases hb : p.1 = P
      · rw [hu p hp hb, hb]
        refine ⟨_, by rw [upd_ne (ne_of_none hP nC), upd_same], by rw [eL]; exact PySem.TriplesOk_snoc _ _ _ _ ht, fun p' cv hcv => ?_⟩
        rw [eL] at hcv
        rcases among_app _ ht hcv with z | z
        · obtain ⟨c0, e1, e2⟩ := ha p' cv z
          exact ⟨c0, e1, hE _ _ e2 codeO_ne⟩
        · exact ⟨c', z, upd_same⟩
      · obtain ⟨ps', a1, a2, a3⟩ := hT p hp
        refine ⟨ps', by rw [upd_ne (ne_of_none a1 nC), upd_ne hb]; exact a1, a2, fun p' cv hcv => ?_⟩
        obtain ⟨c0, e1, e2⟩ := a3 p' cv hcv
        exact ⟨c0, e1, hE _ _ e2 codeO_ne⟩
    · have n1 : h'.objs.size ≠ c' := Nat.ne_of_gt hlt
      have n2 : h'.objs.size ≠ P := Nat.ne_of_gt (Nat.lt_of_lt_of_le (Heap.lt_size hP') hsz)
      rw [upd_ne n1, upd_ne n2]
      exact I.hok.fresh hsz
  | some cv =>
    obtain ⟨c', e, hco⟩ := ha pos cv hc
    subst e
    refine PySem.W.kla_makeFunctionHit (mg := X.mg) (c := c) (P := P) (ps := ps) (closure_ok hfree) I.ok.glob (I.mod.glob.keeps I.bk) hcode (TB.code.keeps I.bk) hP' ht hc bP fun ctv h' tk hx hsz => ?_
    have I1 : Inv X pins σ H { s with heap := h'.push (PySem.W.kla_obj "<lambda>" (X.env.qual ++ "<lambda>") params body scope (cloFrom X.env.cells scope.names []) ((X.mg "__name__").getD .none) c' ctv), toks := tk } := I.kept fun b o e => Heap.get?_push_of_some _ (hx b o e)
    exact h h'.objs.size c' ((X.mg "__name__").getD .none) ctv H _ I1 (ExtN.refl H) (fun _ n => n) hT (Heap.get?_push_size _ rfl) (I.hok.fresh hsz) (nofr _ hsz) hco
end
def tLam' (T : List (Addr × Str)) (TT : (XK → Hp → VK → Prop) → Hp → VK → Prop) (t : XK → TE) : TE := fun σ H Q => Tabs T H ∧ ∀ H1, ExtN H H1 → Stay H H1 → Tabs T H1 → TT (fun E H' Q' => t E σ H' Q') H1 Q
/-- LamX.pe_lamcall over lam_make3 -/
theorem pe_lamcall3 {X : Cx} {T : List (Addr × Str)} {TT : (XK → Hp → VK → Prop) → Hp → VK → Prop} {x a : Str} {g c P : Addr} {k : Nat} {pg : Arguments} {bg : List Stmt} {sg : Scope} {dV kV doc pm cdv ct oc : Value} {an od : Option Addr} {osl : Array (Option Value)} {Ng : List Str}
    {params : Arguments} {body : Expr} {scope : Scope} {t : XK → TE} {p lpos pos : Pos} (hg : Gl X x) (hm : X.mg x = some (.ref g)) (hk : PySem.W.keepIn X.K (.ref g) = true)
    (lk : X.K.lookup g = some ⟨oc, od, .func (PySem.W.fnOf x x pg bg sg dV kV doc pm an cdv ct), osl⟩) (hcg : PySem.W.codeIn X.K cdv x = true) (hb : L2.Binds X.K (PySem.W.fnOf x x pg bg sg dV kV doc pm an cdv ct) [a] []) (Sg : FnScope Ng [a] sg) (hNg : Ng[0]? = some a) (hva : Vis sg a)
    (hG : GivesTo X Ng x sg g cdv bg a (X.env.qual ++ "<lambda>") TT)
    (TB : TabB X.base X.mg c P) (hcode : X.env.code = .ref c) (hmT : (P, X.env.qual ++ "<lambda>") ∈ T) (hu : ∀ p ∈ T, p.1 = P → p.2 = X.env.qual ++ "<lambda>") (hr : Room (k + 2) X.A) (L : LamS X.env.scope scope) (hdef : defaultsOf params X.env = ([], []))
    (hbind : ∀ (q : Str) (cl : List (Str × Addr)) (pm cv ctv : Value), bindArgs (PySem.W.kla_fn "<lambda>" q params body scope cl pm cv ctv) ⟨[], []⟩ = pure [])
    (hbody : ∀ (A : Around) (outer : List Env) (s : Shared) (H : Hp) (E : XK) (f c' : Addr), Room k (A.deeper (lamEnv X scope s.heap.objs.size f c')) → PE (lamCx X A outer s H E scope f c') body (t E))
    (hdb : (x == ("__debug__" : Str)) = false := by decide) (hd : (a == ("__debug__" : Str)) = false := by decide) (hcd : (a == ("__classdict__" : Str)) = false := by decide) :
    PE X (.Call (.Name x p) [.Lambda params body scope lpos] [] pos) (tLam' T TT t) := by
  refine ⟨fun pins s σ H Q I h => ?_⟩
  obtain ⟨hT, h⟩ := h
  refine wpAny_Call_Name_kw (ld_glob I hg hm ?_ hdb)
  refine PySem.W.callWith_K (h₀ := X.base) I.ok.mod.kin hk ?_ (by rfl) (by rfl)
  show wpAny _ _ (spliced ((false, eval (.Lambda params body scope lpos) X.env) :: backTo pos (starEach [] X.env))) _ _ s
  refine Calls.spliced_cons (lam_make3 I TB hcode hmT hu hT hdef (L.has I.ok) fun f c' pm' ctv H1 s' I1 eN st T1 hf hfn hfr hco => ?_)
  refine Calls.spliced_nil ⟨I1.kIn, ?_⟩
  have rc : codeAny (model X.prog X.w) X.A (.call (.ref g) ⟨[.ref f], []⟩) (CR C8.CX0 X.stack X.prog X.w H1 s' Q C8.E0) s' := by
    refine run_ofS (N := Ng) (ps := [a]) (us := [.ref f]) (vs := [.ref f]) lk hcg Sg hr I1.env0 (hb s' [.ref f] I1.kIn rfl) (.cons rfl .nil) rfl fun hr' => ?_
    obtain ⟨t', ht', hq'⟩ := hG f c' s' H1 Q (fun E H' Q' => t E σ H' Q') (fun W pn xe E p1 p2 tk hW => pe_act (i := 0) I1 L hf hfn hfr (hbind _ _ _ _ _) tk hW hr' (fun A outer s H hr2 => hbody A outer s H E f c' hr2) hNg hva hd hcd) hco (h H1 eN st T1)
    exact ⟨t', ht'.nox, hq'⟩
  refine wpAny_call (codeAny_mono rc fun r s2 hq => ?_)
  cases r with
  | error e => exact (show False from hq).elim
  | ok fl =>
    cases fl with
    | ret u => exact I1.after hq
    | next => exact False.elim hq
    | brk => exact False.elim hq
    | cont => exact False.elim hq

/-! ### over data -/
def frzAt (i : Nat) (ρ : En) : En := match ρ[i]? with | some (some dk) => ρ.set i (some (dk.1, 0)) | _ => ρ
def frzAll : List Nat → En → En | [], ρ => ρ | i :: r, ρ => frzAll r (frzAt i ρ)
def maskO : Option VD → Option VD | some (d, 0) => some (d, 0) | _ => none
def mask (ρ : En) : En := ρ.map maskO
def lamM (cap : List Nat) (wf : Str → Option Str) (s0 : Str) (f : M VD) : M VD := fun ρ => match f (mask (frzAll cap ρ)) with
  | .ok _ _ => .ok (.str s0, 0) (frzAll cap ρ)
  | .ex x => (match wf x with | some s => .ok (.str s, 0) (frzAll cap ρ) | none => .no)
  | .no => .no
/-- what the def makes of the lambda's reading: the word of the error, s0 without -/
def TTw (T : List (Addr × Str)) (mg : Str → Option Value) (wf : Str → Option Str) (s0 : Str) : (XK → Hp → VK → Prop) → Hp → VK → Prop := fun tl H Q =>
  Tabs T H ∧ ∀ (E' : XK) (Q' : VK),
    (∀ (x : Str) (C : Addr) (s : Str) (H' : Hp), mg x = some (.ref C) → wf x = some s → Tabs T H' → (∀ H'', TrX H' (fun _ => 0) H'' → Tabs T H'' → Q (.str s) H'') → E' (.ref C) none H') →
    (∀ (v : V) (H' : Hp), Tabs T H' → (∀ H'', TrX H' (fun _ => 0) H'' → Tabs T H'' → Q (.str s0) H'') → Q' v H') → tl E' H Q'
section
variable {K : PySem.W.Frag} {T : List (Addr × Str)} {mg : Str → Option Value} {W : Wsh} {Z Z' : Addr → Prop} {H H' : Hp} {S S' R : Ft} {σ : L2.St} {ρ ρ1 : En} {Q : VK}
theorem sit_frzAt (i : Nat) (sit : Sit K T Z H S σ ρ) : ∃ Z' S', Sit K T Z' H S' σ (frzAt i ρ) ∧ Tr Z H S Z' H S' := by
  unfold frzAt
  split
  · rename_i dk e
    obtain ⟨v, Z', R, S', e1, r, s', g', t'⟩ := sit_take (j := 0) sit e (Nat.zero_le _)
    have sp := sit_put (dk := (dk.1, 0)) s' (get_set_none e) e1 r g'
    rw [set_none_set] at sp
    exact ⟨Z', _, sp, t'⟩
  · exact ⟨Z, S, sit, Tr.refl fun b => Nat.le_refl _⟩
theorem sit_frzAll : ∀ (cap : List Nat) {Z : Addr → Prop} {S : Ft} {ρ : En}, Sit K T Z H S σ ρ → ∃ Z' S', Sit K T Z' H S' σ (frzAll cap ρ) ∧ Tr Z H S Z' H S'
  | [], Z, S, ρ, sit => ⟨Z, S, sit, Tr.refl fun b => Nat.le_refl _⟩
  | i :: r, Z, S, ρ, sit => by
    obtain ⟨Z1, S1, s1, t1⟩ := sit_frzAt i sit
    obtain ⟨Z2, S2, s2, t2⟩ := sit_frzAll r s1
    exact ⟨Z2, S2, s2, t1.trans t2⟩
theorem slots_mask : ∀ {σ : L2.St} {ρ : En} {S : Ft}, Slots K Z H σ ρ S → Slots K Z H σ (mask ρ) (fun _ => 0)
  | [], [], _, _ => fun _ => rfl
  | _ :: σ, none :: ρ, S, h => by
    unfold Slots at h
    show Slots K Z H (_ :: σ) (none :: mask ρ) _
    unfold Slots
    exact slots_mask h
  | some v :: σ, some dk :: ρ, S, h => by
    obtain ⟨d, k⟩ := dk
    unfold Slots at h
    obtain ⟨S1, S2, r, s, e⟩ := h
    cases k with
    | zero =>
      show Slots K Z H (some v :: σ) (some (d, 0) :: mask ρ) _
      unfold Slots
      exact ⟨fun _ => 0, fun _ => 0, rep_ft r (Rep.zero _ r), slots_mask s, fun _ => rfl⟩
    | succ k =>
      show Slots K Z H (some v :: σ) (none :: mask ρ) _
      unfold Slots
      exact slots_mask s
  | none :: _, some _ :: _, _, h => by unfold Slots at h; exact h.elim
  | [], _ :: _, _, h => by unfold Slots at h; exact h.elim
  | _ :: _, [], _, h => by unfold Slots at h; exact h.elim
theorem Sit.mask (s : Sit K T Z H S σ ρ) : Sit K T Z H (fun _ => 0) σ (Em.mask ρ) := ⟨slots_mask s.sl, s.gd.le fun b => Nat.zero_le _, s.tb⟩
theorem Sit.extN {H1 : Hp} (s : Sit K T Z H S σ ρ) (e : ExtN H H1) (st : Stay H H1) (tb : Tabs T H1) : Sit K T Z H1 S σ ρ :=
  s.kept ⟨fun _ z => z, fun a o h _ n => e a o h n⟩ ⟨s.gd.one, s.gd.nz, fun b z => st b (s.gd.zd b z), fun b p => by
    obtain ⟨o, h, m⟩ := s.gd.mt b p
    exact ⟨o, e b o h (ntbl m), m⟩⟩ tb
theorem Sit.trX {H1 : Hp} (s : Sit K T Z H S σ ρ) (t : TrX H (fun _ => 0) H1) (tb : Tabs T H1) : Sit K T Z H1 S σ ρ :=
  s.extN (fun b o h n => t.kp b o h rfl n) t.dm tb
theorem TrX.tr {H1 : Hp} (t : TrX H (fun _ => 0) H1) : Tr Z H S Z H1 S := ⟨fun _ z => z, fun a o e _ n => t.kp a o e rfl n, fun a _ => Nat.le_refl _, fun _ _ z => .inl z, t.dm⟩
theorem TrX.trans {H1 H2 : Hp} (a : TrX H (fun _ => 0) H1) (b : TrX H1 (fun _ => 0) H2) : TrX H (fun _ => 0) H2 := ⟨fun x o e s n => b.kp x o (a.kp x o e s n) rfl n, fun x n => b.dm x (a.dm x n)⟩
theorem tD_lam {cap : List Nat} {wf : Str → Option Str} {s0 : Str} {f : M VD} (h : tD K T mg W (lamM cap wf s0 f) σ H Q) : tLam' T (TTw T mg wf s0) (fun E => tD K T mg (fun cls H' => E cls none H') f) σ H Q := by
  obtain ⟨Z, S, ρ, sit, h⟩ := h
  refine ⟨sit.tb, fun H1 eN st T1 => ⟨T1, fun E' Q' hE hQ => ?_⟩⟩
  obtain ⟨Z1, S1, s1, t1⟩ := sit_frzAll cap sit
  have s2 := s1.extN eN st T1
  have x1 : TrX H (fun _ => 0) H1 := ⟨fun a o e _ n => eN a o e n, st⟩
  have key : ∀ {s : Str} {H' H'' : Hp}, Fin K T σ (frzAll cap ρ) (.str s, 0) Z H S Q → TrX H1 (fun _ => 0) H' → TrX H' (fun _ => 0) H'' → Tabs T H'' → Q (.str s) H'' := fun {s H' H''} fin x2 x3 tb => by
    have s3 := s1.trX (x1.trans (x2.trans x3)) tb
    exact fin _ H'' Z1 (fun _ => 0) S1 s3 (rep_at rfl _ fun _ => rfl) s3.good0 ((t1.trans (x1.trans (x2.trans x3)).tr).le fun b => by show 0 + S1 b ≤ S1 b; omega)
  refine ⟨Z1, fun _ => 0, Em.mask (frzAll cap ρ), s2.mask, ?_⟩
  unfold lamM at h
  cases e1 : f (Em.mask (frzAll cap ρ)) with
  | no => rw [e1] at h; exact h
  | ex x =>
    rw [e1] at h
    dsimp only at h
    cases e2 : wf x with
    | none => rw [e2] at h; exact h.elim
    | some s =>
      rw [e2] at h
      exact fun C H' hm tb x2 => hE x C s H' hm e2 tb fun H'' x3 tb3 => key h x2 x3 tb3
  | ok dk ρ1 =>
    rw [e1] at h
    exact fun v H' Z' R S' s r g t => hQ v H' s.tb fun H'' x3 tb3 => key h t.x x3 tb3
end
end Em
set_option Elab.async false
set_option linter.all false
set_option maxRecDepth 100000
set_option maxHeartbeats 4000000
/-! Em 14: the defs that tell a call's error by a word. -/
namespace Em
open PySem PySem.Spec L2 LamX PyProof.Rows
/-! ### isinstance of the error that a suite holds -/
def isES (i : Nat) (a : Addr) (b : Bool) : En → Option D := fun ρ => match ρ[i]? with
  | some (some (.adr a', _)) => if a' = a then some (.bl b) else none
  | _ => none
theorem ds_isE {X : Cx} {T : List (Addr × Str)} {a D : Addr} {oe : Obj} {pn : List (Addr × Obj)} {c : V} {cv : Value} {b : Bool} {en y : Str} {p p1 p2 pos : Pos} (i : Nat) (C : ExcC X.K D) (hz : Zc (.ref D) none oe) (hf : ∃ vs, oe.data = .fields vs)
    (hcls : PE (X.suite a ((a, oe) :: pn)) (.Name y p2) (tC c)) (hcv : ∀ u, RelV c u → u = cv) (hk : PySem.W.kitOne X.K (.ref D) cv = some b) (hg : Gl X "isinstance") (hm : X.mg "isinstance" = none)
    (hN : X.N[i]? = some en := by rfl) (hv : Vis X.env.scope en := by first | exact Or.inl rfl | exact Or.inr (Or.inl rfl) | exact Or.inr (Or.inr rfl)) (hd : (en == ("__debug__" : Str)) = false := by decide)
    (hcd : (en == ("__classdict__" : Str)) = false := by decide) (hbv : bootBuiltins "isinstance" = some (.builtin "isinstance") := by decide +kernel)
    (he : starEach [.Name en p1, .Name y p2] X.env = (false, eval (.Name en p1) X.env) :: starEach [.Name y p2] X.env := by rfl) (he2 : starEach [.Name y p2] X.env = (false, eval (.Name y p2) X.env) :: starEach [] X.env := by rfl) (hpl : (backTo pos (starEach [.Name y p2] X.env)).any (·.1) = false := by rfl) :
    DS (X.suite a ((a, oe) :: pn)) T (.Call (.Name "isinstance" p) [.Name en p1, .Name y p2] [] pos) (isES i a b) := by
  refine PE.imp (pe_callB (X := X.suite a ((a, oe) :: pn)) (call_isE C hz hf) hg hm hbv (pa_cons (pe_var (X := X.suite a ((a, oe) :: pn)) hN hv hd hcd) (pa_cons hcls pa_nil he2) he) (by decide) (by decide) he hpl) fun σ H Q q => ?_
  obtain ⟨Z, S, ρ, d, sit, e, q⟩ := q
  unfold isES at e
  split at e
  · rename_i a' k e1
    split at e
    · rename_i ea
      subst ea
      cases e
      obtain ⟨v, S1, S2, e2, r, sl, hS⟩ := sit.sl.take e1
      simp only [Rep] at r
      obtain ⟨rfl, _⟩ := r
      exact ⟨_, e2, c, cv, b, rfl, hcv, hk, q _ (by simp only [Vw])⟩
    · cases e
  · cases e
theorem slots_nones {K : PySem.W.Frag} {Z : Addr → Prop} {H : Hp} : ∀ (n : Nat) (σ : L2.St), σ.length = n → Slots K Z H σ (List.replicate n none) (fun _ => 0)
  | 0, [], _ => fun _ => rfl
  | n + 1, _ :: σ, h => by
    show Slots K Z H (_ :: σ) (none :: List.replicate n none) _
    unfold Slots
    exact slots_nones n σ (Nat.succ.inj h)
theorem sit_adr {K : PySem.W.Frag} {T : List (Addr × Str)} {H : Hp} {n i : Nat} {a : Addr} {σ : L2.St} (hl : (σ.set i (some (.ref a))).length = n) (hi : i < n) (tb : Tabs T H) :
    Sit K T (fun _ => False) H (fun _ => 0) (σ.set i (some (.ref a))) ((List.replicate n none).set i (some (.adr a, 0))) := by
  refine ⟨?_, ⟨fun _ => Nat.zero_le _, fun b h => absurd h (Nat.lt_irrefl _), fun _ z => z.elim, fun b h => absurd h (Nat.lt_irrefl _)⟩, tb⟩
  have hl' : σ.length = n := by rw [List.length_set] at hl; exact hl
  have := Slots.put (S1 := fun _ => 0) (dk := (.adr a, 0)) (v := .ref a) (slots_nones (K := K) (Z := fun _ => False) (H := H) n σ hl') (i := i) (by rw [List.getElem?_replicate]; simp [hi]) (by simp only [Rep]; exact ⟨trivial, fun _ => trivial⟩)
  exact this.ft fun b => rfl
section
variable {X : Cx} {T : List (Addr × Str)} {Ng : List Str} {x a w en ex q s0 : Str} {sg : Scope} {g CE : Addr} {cdg : Value} {j iw ie : Nat} {wf : Str → Option Str} {b₀ : Stmt} {suite : List Stmt} {p1 p2 p3 p4 p5 p6 p7 p8 p9 p10 p11 : Pos}
/-- w = s0; try: a() / except ex as en: .. (w told); return w -/
theorem word_gives (hN : Ng.Nodup) (h0 : Ng[0]? = some a) (hiw : Ng[iw]? = some w) (hie : Ng[ie]? = some en) (hne : iw ≠ ie) (hw0 : iw ≠ 0) (hlw : sg.names.lookup w = some .local) (hle : sg.names.lookup en = some .local)
    (hge : sg.names.lookup ex = some .globalImplicit) (hme : X.mg ex = some (.ref CE)) (hde : (ex == ("__debug__" : Str)) = false) (hdw : (w == ("__debug__" : Str)) = false) (hcw : (w == ("__classdict__" : Str)) = false)
    (hex : ∀ (x' : Str) (C : Addr) (s' : Str), X.mg x' = some (.ref C) → wf x' = some s' → PySem.W.exmOne X.K (.ref C) (.ref CE) = some true)
    (hsuite : ∀ (s : Shared) (H : Hp) (aa : Addr) (oe : Obj) (pn : List (Addr × Obj)) (C : Addr) (x' s' : Str), X.mg x' = some (.ref C) → wf x' = some s' → Zc (.ref C) none oe → (∃ vs, oe.data = .fields vs) →
      ∃ (fs : MS) (ρ' : En) (k : Nat), SSs ((cxOf C8.CX0 X.prog X.w X.K X.mg X.base Ng x sg g cdg X.A X.stack s H C8.E0).nox.suite aa ((aa, oe) :: pn)) T (fun _ _ => False) false (b₀ :: suite) fs ∧
        fs ((List.replicate Ng.length none).set ie (some (.adr aa, 0))) = .nx ρ' ∧ ρ'[iw]? = some (some (.str s', k))) :
    GivesTo X Ng x sg g cdg [.Assign [.Name w p1] (.Constant (.str s0) j p2) p3, .Try [.Expr (.Call (.Name a p4) [] [] p5) p6] [.ExceptHandler (some (.Name ex p7)) (some en) (b₀ :: suite) p8] [] [] p9, .Return (some (.Name w p10)) p11] a q (TTw T X.mg wf s0) := by
  intro f c' s H Q tl act hc h
  obtain ⟨tb0, h⟩ := h
  have hgl : Gl (cxOf C8.CX0 X.prog X.w X.K X.mg X.base Ng x sg g cdg X.A X.stack s H C8.E0).nox ex := hge
  have hiw' : iw < Ng.length := (List.getElem?_eq_some_iff.mp hiw).1
  have hie' : ie < Ng.length := (List.getElem?_eq_some_iff.mp hie).1
  refine ⟨_, pss_cons (ps_set (X := (cxOf C8.CX0 X.prog X.w X.K X.mg X.base Ng x sg g cdg X.A X.stack s H C8.E0).nox) (pos := p3) hN hiw (.inl hlw) (pe_str (pos := p2)) rfl (.inr hlw))
    (pss_cons (ps_try_as (X := (cxOf C8.CX0 X.prog X.w X.K X.mg X.base Ng x sg g cdg X.A X.stack s H C8.E0).nox) (c := .ref CE) (i := ie)
        (tb := fun W D σ H => ∃ Ech : XK, (∀ cls d σ' H', Ech cls d H' → W cls d σ' H') ∧ σ[0]? = some (some (.ref f)) ∧ H c' = some (CodeO c' q) ∧ tl Ech H (fun _ H' => D.nx σ H'))
        (ts := fun aa cls d D σ H' => σ.length = Ng.length → ∀ (oe : Obj) (pn : List (Addr × Obj)), Zc cls d oe → (∃ vs, oe.data = .fields vs) →
          ∃ fs, SSs ((cxOf C8.CX0 X.prog X.w X.K X.mg X.base Ng x sg g cdg X.A X.stack s H C8.E0).nox.suite aa ((aa, oe) :: pn)) T (fun _ _ => False) false (b₀ :: suite) fs ∧ tSt X.K T X.mg (fun _ _ => False) false fs D σ H')
        rfl rfl hN hie hle ⟨hgl, hde, .inl hme⟩ L2.takes0 (fun W pn xe tk _ => ?_) (fun aa oe cls d pn hz hf => ?_))
      (pss_one (ps_ret (pos := p11) (pe_var (pos := p10) hiw (.inl hlw) hdw hcw)))), ?_⟩
  · refine pss_one ⟨fun pins s' σ H' D I h' => ?_⟩
    obtain ⟨Ech, hW, h1, h2, h3⟩ := h'
    exact (ps_expr (pos := p6) (act W pn xe Ech p4 p5 tk hW)).run pins s' σ H' D I ⟨h1, h2, h3⟩
  · exact ⟨fun pins s' σ H' D I q => by
      obtain ⟨fs, hS, q⟩ := q I.len oe pn hz hf
      exact hS.run pins s' σ H' D I q⟩
  · refine ⟨fun cls d H' => ∃ (x' : Str) (C : Addr) (s' : Str), cls = .ref C ∧ d = none ∧ X.mg x' = some (.ref C) ∧ wf x' = some s' ∧ Tabs T H' ∧ ∀ H'', TrX H' (fun _ => 0) H'' → Tabs T H'' → Q (.str s') H'', ?_, ?_, hc, h _ _ (fun x' C s' H' h1 h2 h3 h4 => ⟨x', C, s', rfl, rfl, h1, h2, h3, h4⟩) fun v H' h1 h2 => ?_⟩
    · rintro cls d σ' H' ⟨x', C, s', rfl, rfl, h1, h2, h3, h4⟩
      refine ⟨true, hex x' C s' h1 h2, fun _ aa _ hl oe pn hz hf => ?_, fun z => by cases z⟩
      obtain ⟨fs, ρ', k, hS, e1, e2⟩ := hsuite s H aa oe pn C x' s' h1 h2 hz hf
      refine ⟨fs, hS, fun _ => False, fun _ => 0, _, sit_adr hl hie' h3, ?_⟩
      rw [e1]
      intro σ2 H2 Z2 S2 s2 t2 _
      obtain ⟨v, Sa, Sb, ev, rv, _, _⟩ := s2.sl.take e2
      simp only [Rep] at rv
      obtain ⟨rfl, _⟩ := rv
      refine ⟨_, ?_, h4 H2 t2.x s2.tb⟩
      rw [List.getElem?_set_ne (Ne.symm hne)]
      exact ev
    · show (((some (V.ref f)) :: List.replicate _ none).set iw (some (.str s0)))[0]? = _
      rw [List.getElem?_set_ne hw0]
      rfl
    · refine ⟨.str s0, ?_, h2 H' ⟨fun a o e _ _ => e, fun _ n => n⟩ h1⟩
      rw [List.getElem?_set_self]
      unfold L2.start
      rw [List.length_append, List.length_map, List.length_replicate]
      simp only [List.length_cons, List.length_nil]
      omega
end
def nxOf : SR → En | .nx ρ => ρ | _ => []
/-- a def that tells a call's error -/
structure Wd (P : Program) (w : World) (K : PySem.W.Frag) (mg : Str → Option Value) (base : Heap) (T : List (Addr × Str)) (x : Str) (wf : Str → Option Str) (s0 : Str) : Prop where
  ex : ∃ (a : Str) (g : Addr) (pg : Arguments) (bg : List Stmt) (sg : Scope) (dV kV doc pm cdv ct oc : Value) (an od : Option Addr) (osl : Array (Option Value)) (Ng : List Str),
    mg x = some (.ref g) ∧ PySem.W.keepIn K (.ref g) = true ∧ K.lookup g = some ⟨oc, od, .func (PySem.W.fnOf x x pg bg sg dV kV doc pm an cdv ct), osl⟩ ∧ PySem.W.codeIn K cdv x = true ∧ L2.Binds K (PySem.W.fnOf x x pg bg sg dV kV doc pm an cdv ct) [a] [] ∧
    FnScope Ng [a] sg ∧ Ng[0]? = some a ∧ Vis sg a ∧ (a == ("__debug__" : Str)) = false ∧ (a == ("__classdict__" : Str)) = false ∧
    ∀ (X : Cx), X.prog = P → X.w = w → X.K = K → X.mg = mg → X.base = base → Room 1 X.A → ∀ q, GivesTo X Ng x sg g cdv bg a q (TTw T mg wf s0)
theorem de_lam {X : Cx} {T : List (Addr × Str)} {W : Wsh} {x s0 : Str} {wf : Str → Option Str} {c P : Addr} {k : Nat} {params : Arguments} {body : Expr} {scope : Scope} {f : M VD} {p lpos pos : Pos} (cap : List Nat)
    (G : Wd X.prog X.w X.K X.mg X.base T x wf s0) (hg : Gl X x)
    (TB : TabB X.base X.mg c P) (hcode : X.env.code = .ref c) (hmT : (P, X.env.qual ++ "<lambda>") ∈ T) (hu : ∀ p ∈ T, p.1 = P → p.2 = X.env.qual ++ "<lambda>") (hr : Room (k + 2) X.A) 
    (hbody : ∀ (A : Around) (outer : List Env) (s : Shared) (H : Hp) (E : XK) (f' c' : Addr) (W' : Wsh), Room k (A.deeper (lamEnv X scope s.heap.objs.size f' c')) → Tk (lamCx X A outer s H E scope f' c') W' → DE (lamCx X A outer s H E scope f' c') T W' body f)
    (L : lamSB X.env.scope scope = true := by decide +kernel) (hdef : defaultsOf params X.env = ([], []) := by rfl)
    (hbind : ∀ (q : Str) (cl : List (Str × Addr)) (pm cv ctv : Value), bindArgs (PySem.W.kla_fn "<lambda>" q params body scope cl pm cv ctv) ⟨[], []⟩ = pure [] := by intros; rfl)
    (hdb : (x == ("__debug__" : Str)) = false := by decide) :
    DE X T W (.Call (.Name x p) [.Lambda params body scope lpos] [] pos) (lamM cap wf s0 f) := by
  obtain ⟨a, g, pg, bg, sg, dV, kV, doc, pm, cdv, ct, oc, an, od, osl, Ng, h1, h2, h3, h4, h5, h6, h7, h8, h9, h10, h11⟩ := G.ex
  exact PE.imp (pe_lamcall3 (T := T) (TT := TTw T X.mg wf s0) (t := fun E => tD X.K T X.mg (fun cls H' => E cls none H') f) hg h1 h2 h3 h4 h5 h6 h7 h8 (h11 X rfl rfl rfl rfl rfl (hr.mono (Nat.succ_le_succ (Nat.zero_le _))) _) TB hcode hmT hu hr (lamS_by L) hdef hbind
    (fun A outer s H E f' c' hr' => hbody A outer s H E f' c' _ hr' ((takes_of rfl rfl rfl rfl).imp fun c d σ H h => by obtain ⟨rfl, h⟩ := h; exact h)) hdb h9 h10) fun σ H Q q => tD_lam q
end Em
set_option Elab.async false
set_option linter.all false
set_option maxRecDepth 100000
set_option maxHeartbeats 4000000
/-! Em 15: defs told with their code objects; the empty dict; the end. -/
namespace Em
open PySem L2 PyProof.Rows
def cM2 (dk : VD) : M VD := fun ρ => .ok dk ρ
theorem de_dct0 {X : Cx} {T : List (Addr × Str)} {W : Wsh} {pos : Pos} : DE X T W (.Dict [] [] pos) (cM2 (.dct [] [], 2)) := PE.imp pe_dnewK fun σ H Q q => by
  obtain ⟨Z, S, ρ, sit, q⟩ := q
  intro p hp
  have g0 : Good Z H (fun b => S b + 0) := sit.gd.eq fun b => by simp
  exact q (.ref p) (upd H p (.dK [])) Z (fun b => f1 p b + 0) S (sit.kept (kp_upd hp) (sit.gd.fresh0 hp) (tabs_upd sit.tb hp)) (by simp only [Rep]; exact ⟨p, [], fun _ => 0, rfl, .inl ⟨[], upd_same, rfl, rfl⟩, by unfold Reps; exact ⟨rfl, fun _ => rfl⟩, fun _ => rfl⟩)
    ((Good.fresh (o := .dK []) sit.gd hp rfl).eq fun b => by show f1 p b + S b = f1 p b + 0 + S b; omega) ((Tr.fresh (o := .dK []) hp).le fun b => by show f1 p b + 0 + S b ≤ _; omega)
/-- as Fun, its code object told -/
structure FunC (K : PySem.W.Frag) (x qual : Str) (st : Stmt) (f : Addr) (fd : FuncData) (cdv : Value) : Prop where
  ex : ∃ (oc : Value) (od : Option Addr) (kV doc pm : Value) (an : Option Addr) (ct : Value) (osl : Array (Option Value)),
    fd = PySem.W.fnOf x qual (defArgs st) (defBody st) (defScope st) .none kV doc pm an cdv ct ∧ K.lookup f = some ⟨oc, od, .func fd, osl⟩ ∧ PySem.W.codeIn K cdv qual = true
  kp : PySem.W.keepIn K (.ref f) = true
section
variable {P : Program} {w : World} {K : PySem.W.Frag} {mg : Str → Option Value} {base : Heap} {T : List (Addr × Str)} {Z : Addr → Prop} {H : Hp}
theorem fnC_P {x qual : Str} {st : Stmt} {f : Addr} {fd : FuncData} {N ps : List Str} {k n : Nat} {m : MS} {cdv : Value} (F : FunC K x qual st f fd cdv) (Sc : FnScope N ps (defScope st)) (hn : ps.length = n) (hm : mg x = some (.ref f))
    (hb : L2.Binds K fd ps [])
    (body : ∀ (A : Around) (outer : List Env) (s : Shared) (H : Hp) (E : XK) (W : Wsh), Room k (A.deeper (envOfC qual (defScope st) s.heap.objs.size f cdv)) →
      Tk (cxOf (L2.CX P w) P w K mg base N qual (defScope st) f cdv A outer s H E) W → SSs (cxOf (L2.CX P w) P w K mg base N qual (defScope st) f cdv A outer s H E) T W false (defBody st) m) :
    FnOk P w K mg base (L2.CX P w) (k + 1) f fd ps (spP K T mg n (runP N.length m)) := by
  obtain ⟨oc, od, kV, doc, pm, an, ct, osl, rfl, lk, hcd⟩ := F.ex
  refine fn_of lk hcd Sc (fun vs H Q E h => ?_) (fun A outer s H vs Q E hr h => ?_)
  · obtain ⟨Z, ds, hl, _, r, _⟩ := h
    rw [r.len, hl, hn]
  · obtain ⟨Z, ds, hl, g, r, tb, h⟩ := h
    refine ⟨_, body A outer s H E (fun C H' => E C none H') hr ((takes_of rfl rfl rfl rfl).imp fun c d σ H h => by obtain ⟨rfl, h⟩ := h; exact h), Z, fun _ => 0, entry N.length (ds.map fun d => (d, 0)), ⟨?_, g, tb⟩, ?_⟩
    · unfold L2.start entry
      rw [List.length_map, ← r.len]
      exact slots_entry _ r
    · unfold runP at h
      cases e : m (entry N.length (ds.map fun d => (d, 0))) with
      | nx ρ =>
        rw [e] at h
        exact fun σ' H' Z' S' s t p => h .non H' Z' (fun _ => 0) s.tb (rep_at rfl _ fun _ => rfl) (s.gd.le fun b => Nat.zero_le _) (t.le fun b => Nat.zero_le _)
      | rt dk ρ =>
        rw [e] at h
        exact fun σ' v H' Z' R S' s r g t p => h v H' Z' R s.tb r (g.le fun b => Nat.le_add_right _ _) (t.le fun b => Nat.le_add_right _ _)
      | ex x => rw [e] at h; exact h
      | bk ρ => rw [e] at h; exact h.elim
      | ct ρ => rw [e] at h; exact h.elim
      | no => rw [e] at h; exact h.elim
theorem fnC_I {x qual : Str} {st : Stmt} {f : Addr} {fd : FuncData} {N ps : List Str} {k n : Nat} {m : MS} {cdv : Value} (F : FunC K x qual st f fd cdv) (Sc : FnScope N ps (defScope st)) (hn : ps.length = n + 1) (hm : mg x = some (.ref f))
    (hb : L2.Binds K fd ps [])
    (body : ∀ (A : Around) (outer : List Env) (s : Shared) (H : Hp) (E : XK) (W : Wsh), Room k (A.deeper (envOfC qual (defScope st) s.heap.objs.size f cdv)) →
      Tk (cxOf (L2.CX P w) P w K mg base N qual (defScope st) f cdv A outer s H E) W → SSs (cxOf (L2.CX P w) P w K mg base N qual (defScope st) f cdv A outer s H E) T W true (defBody st) m) :
    Fn P w K mg base (k + 1) x (spI K T mg n (runI N.length m)) := by
  obtain ⟨oc, od, kV, doc, pm, an, ct, osl, rfl, lk, hcd⟩ := F.ex
  refine ⟨f, _, ps, hm, F.kp, hb, fn_of lk hcd Sc (fun vs H Q E h => ?_) (fun A outer s H vs Q E hr h => ?_)⟩
  · obtain ⟨Z, S, d0, v0, ds, vr, rfl, hl, _, r0, r, _⟩ := h
    rw [List.length_cons, r.len, hl, hn]
  · obtain ⟨Z, S, d0, v0, ds, vr, rfl, hl, g, r0, r, tb, h⟩ := h
    refine ⟨_, body A outer s H E (fun C H' => E C none H') hr ((takes_of rfl rfl rfl rfl).imp fun c d σ H h => by obtain ⟨rfl, h⟩ := h; exact h), Z, S, entry N.length ((d0, 1) :: ds.map fun d => (d, 0)), ⟨?_, g, tb⟩, ?_⟩
    · unfold L2.start entry
      rw [List.length_cons, List.length_cons, List.length_map, ← r.len]
      simp only [List.map_cons, List.cons_append]
      unfold Slots
      exact ⟨S, fun _ => 0, r0, slots_entry _ r, fun _ => rfl⟩
    · unfold runI at h
      have st0 : ∀ σ' : L2.St, Pin true (L2.start N (v0 :: vr)) σ' → σ'[0]? = some (some v0) := fun σ' p => (p rfl).trans rfl
      -- slot 0 at the end
      have fin : ∀ {σ' : L2.St} {H' : Hp} {Z' : Addr → Prop} {S' R : Ft} {ρ : En} {d1 : D} {k1 : Nat} {v : V} {dk : VD}, Sit K T Z' H' S' σ' ρ → Pin true (L2.start N (v0 :: vr)) σ' → ρ[0]? = some (some (d1, k1 + 1)) → Rep K Z' H' dk.1 dk.2 v R → Good Z' H' (fun b => R b + S' b) →
          Tr Z H S Z' H' (fun b => R b + S' b) → (∀ (v : V) (H' : Hp) (Z' : Addr → Prop) (R S' : Ft), LamX.Tabs T H' → Rep K Z' H' dk.1 dk.2 v R → Rep K Z' H' d1 1 v0 S' → Good Z' H' (fun b => R b + S' b) → Tr Z H S Z' H' (fun b => R b + S' b) → Q v H') → Q v H' := by
        intro σ' H' Z' S' R ρ d1 k1 v dk s p e rv gv tv hq
        obtain ⟨v1, Z2, R1, S2, ev, r1, s2, g2, t2⟩ := sit_take (j := 1) s e (Nat.succ_le_succ (Nat.zero_le _))
        rw [st0 σ' p] at ev
        cases ev
        have g3 := gv.hold t2 g2
        exact hq v H' Z2 R R1 s2.tb (rv.keep _ (gv.kp t2)) r1 (g3.le fun b => by show R b + R1 b ≤ R b + (R1 b + S2 b); omega) ((tv.trans (t2.hold R)).le fun b => by show R b + R1 b ≤ R b + (R1 b + S2 b); omega)
      cases e : m (entry N.length ((d0, 1) :: ds.map fun d => (d, 0))) with
      | nx ρ =>
        rw [e] at h
        dsimp only at h
        intro σ' H' Z' S' s t p
        cases e2 : ρ[0]? with
        | none => rw [e2] at h; exact h.elim
        | some o =>
          cases o with
          | none => rw [e2] at h; exact h.elim
          | some dk1 =>
            obtain ⟨d1, k1⟩ := dk1
            cases k1 with
            | zero => rw [e2] at h; exact h.elim
            | succ k1 => rw [e2] at h; exact fin (dk := (.non, 0)) s p e2 (rep_at rfl _ fun _ => rfl) s.good0 (t.eq fun b => by simp) h
      | rt dk ρ =>
        rw [e] at h
        dsimp only at h
        intro σ' v H' Z' R S' s r g t p
        cases e2 : ρ[0]? with
        | none => rw [e2] at h; exact h.elim
        | some o =>
          cases o with
          | none => rw [e2] at h; exact h.elim
          | some dk1 =>
            obtain ⟨d1, k1⟩ := dk1
            cases k1 with
            | zero => rw [e2] at h; exact h.elim
            | succ k1 => rw [e2] at h; exact fin s p e2 r g t h
      | ex x => rw [e] at h; exact h
      | bk ρ => rw [e] at h; exact h.elim
      | ct ρ => rw [e] at h; exact h.elim
      | no => rw [e] at h; exact h.elim
end
end Em
set_option Elab.async false
set_option linter.all false
set_option maxRecDepth 100000
set_option maxHeartbeats 4000000
/-! Em 16: facts of the module, the end. -/
namespace Em
open PySem PySem.Spec L2 PyProof.Rows
section
variable {K : PySem.W.Frag} {h : Heap} {mg : Str → Option Value}
theorem def_mk {x : Str} {st : Stmt} {f : Addr} {oc : Value} {od an : Option Addr} {osl : Array (Option Value)} {kV doc pm cdv ct : Value} {ps : List Str} (X : K.In h) (G : h.Ns mainGlobals mg) (a : PySem.W.nsIn K mainGlobals x = some (some (.ref f)))
    (l : K.lookup f = some ⟨oc, od, .func (PySem.W.fnOf x x (defArgs st) (defBody st) (defScope st) .none kV doc pm an cdv ct), osl⟩) (c : PySem.W.codeIn K cdv x = true) (k : PySem.W.keepIn K (.ref f) = true)
    (hb : ∀ (kV doc pm : Value) (an : Option Addr) (cdv ct : Value) (us : List Value), us.length = ps.length → bindArgs (PySem.W.fnOf x x (defArgs st) (defBody st) (defScope st) .none kV doc pm an cdv ct) ⟨us, []⟩ = pure (ps.zip us)) :
    ∃ f fd, mg x = some (.ref f) ∧ L2.Fun K x x st f fd ∧ L2.Binds K fd ps [] := ⟨f, _, PySem.W.mg_of X G a, fun_mk (st := st) l c k, (fun_mk (st := st) l c k).binds hb⟩
theorem defC_mk {x : Str} {st : Stmt} {f : Addr} {oc : Value} {od an : Option Addr} {osl : Array (Option Value)} {kV doc pm cdv ct : Value} {ps : List Str} (X : K.In h) (G : h.Ns mainGlobals mg) (a : PySem.W.nsIn K mainGlobals x = some (some (.ref f)))
    (l : K.lookup f = some ⟨oc, od, .func (PySem.W.fnOf x x (defArgs st) (defBody st) (defScope st) .none kV doc pm an cdv ct), osl⟩) (c : PySem.W.codeIn K cdv x = true) (k : PySem.W.keepIn K (.ref f) = true)
    (hb : ∀ (kV doc pm : Value) (an : Option Addr) (cdv ct : Value) (us : List Value), us.length = ps.length → bindArgs (PySem.W.fnOf x x (defArgs st) (defBody st) (defScope st) .none kV doc pm an cdv ct) ⟨us, []⟩ = pure (ps.zip us)) :
    ∃ fd, mg x = some (.ref f) ∧ FunC K x x st f fd cdv ∧ L2.Binds K fd ps [] ∧ fd = PySem.W.fnOf x x (defArgs st) (defBody st) (defScope st) .none kV doc pm an cdv ct :=
  ⟨_, PySem.W.mg_of X G a, ⟨⟨oc, od, kV, doc, pm, an, ct, osl, rfl, l, c⟩, k⟩, (fun_mk (st := st) l c k).binds hb, rfl⟩
theorem ec_mk {x : Str} {C : Addr} (X : K.In h) (G : h.Ns mainGlobals mg) (a : PySem.W.nsIn K mainGlobals x = some (some (.ref C))) (e : PySem.W.excIn K C [.type "ValueError", .type "Exception", .type "BaseException", .type "object"] "ValueError.__new__" = true)
    (k : PySem.W.keepIn K (.ref C) = true) (b : PySem.W.subIn K (.ref C) (.type "BaseException") = some true) (t : PySem.W.typeIn K (.ref C) = some (.type "type")) : ∃ C, Ec K mg x C := ⟨C, PySem.W.mg_of X G a, e, k, b, t⟩
theorem gv_int {x : Str} {i : Int} {t : Nat} (X : K.In h) (G : h.Ns mainGlobals mg) (a : PySem.W.nsIn K mainGlobals x = some (some (.int i t))) : Gv K mg x (.int i) := ⟨.int i, .int i t, PySem.W.mg_of X G a, ⟨t, rfl⟩, fun Z H => rep_at rfl 0 fun _ => rfl⟩
theorem gv_loose {p : Program} {lv : List (Str × PySem.W.WData)} {x : Str} {i : Int} (X : K.In h) (L : PySem.W.XL p lv mg h) (m : (x, PySem.W.WData.int i) ∈ lv) : Gv K mg x (.int i) := by
  obtain ⟨v, h1, h2⟩ := L.2.val _ m
  cases h2 with
  | int i t => exact ⟨.int i, .int i t, h1, ⟨t, rfl⟩, fun Z H => rep_at rfl 0 fun _ => rfl⟩
theorem gv_str {x s : Str} {t : Nat} (X : K.In h) (G : h.Ns mainGlobals mg) (a : PySem.W.nsIn K mainGlobals x = some (some (.str s t))) : Gv K mg x (.str s) := ⟨.str s, .str s t, PySem.W.mg_of X G a, ⟨t, rfl⟩, fun Z H => rep_at rfl 0 fun _ => rfl⟩
theorem gv_tupI {x : Str} {ns : List Int} {a : Addr} {od : Option Addr} {its : Array Value} {n : Nat} {sl : Array (Option Value)} (X : K.In h) (G : h.Ns mainGlobals mg) (e : PySem.W.nsIn K mainGlobals x = some (some (.ref a)))
    (l : K.lookup a = some ⟨.type "tuple", od, .seq its n, sl⟩) (hz : its.size ≤ sizeLine) (hv : Vals (ns.map V.int) its.toList) : Gv K mg x (.tup (ns.map .int)) :=
  ⟨.ref a, .ref a, PySem.W.mg_of X G e, rfl, fun Z H => by
    simp only [Rep]
    exact ⟨a, ns.map V.int, rfl, .inr ⟨_, its, n, l, rfl, rfl, hz, hv⟩, reps_ints ns⟩⟩
theorem kit_same {t : Value} : PySem.W.kitOne K t t = some true := if_pos (beq_self_eq_true _)
theorem kit_ref {C D : Addr} {b : Bool} (hd : PySem.W.hasDictIn K D = true) (ht : PySem.W.typeIn K (.ref D) = some (.type "type")) (hs : PySem.W.subIn K (.ref C) (.ref C) = some true) (e : PySem.W.subIn K (.ref C) (.ref D) = some b) : PySem.W.kitOne K (.ref C) (.ref D) = some b := by
  unfold PySem.W.kitOne
  by_cases hc : C = D
  · subst hc
    rw [if_pos (beq_self_eq_true _), ← e, hs]
  · rw [if_neg (by intro z; exact hc (Value.ref.inj (beq_iff_eq.mp z)))]
    show (if ((PySem.W.clsIn K D).isSome && PySem.W.typeIn K (.ref D) == some (.type "type")) = true then PySem.W.subIn K (.ref C) (.ref D) else none) = some b
    obtain ⟨cd, h1, _⟩ := PySem.W.any_some hd
    rw [if_pos (by rw [h1, ht]; rfl)]
    exact e
theorem kit_typ {C : Addr} {n : String} {b : Bool} (hm : PySem.W.kitMeta n = true) (e : PySem.W.subIn K (.ref C) (.type n) = some b) : PySem.W.kitOne K (.ref C) (.type n) = some b := by
  unfold PySem.W.kitOne
  rw [if_neg (by intro z; cases beq_iff_eq.mp z)]
  show (if PySem.W.kitMeta n = true then PySem.W.subIn K (.ref C) (.type n) else none) = some b
  rw [if_pos hm]
  exact e
/-- an own class that may be caught and asked -/
structure EcX (K : PySem.W.Frag) (mg : Str → Option Value) (x : Str) (C CE : Addr) : Prop where
  g : mg x = some (.ref C)
  x : ExcC K C
  t : PySem.W.typeIn K (.ref C) = some (.type "type")
  s : PySem.W.subIn K (.ref C) (.ref C) = some true
  em : PySem.W.exmOne K (.ref C) (.ref CE) = some true
theorem ecx_mk {x n : Str} {C CE : Addr} (X : K.In h) (G : h.Ns mainGlobals mg) (aE : PySem.W.nsIn K mainGlobals n = some (some (.ref CE))) (a : PySem.W.nsIn K mainGlobals x = some (some (.ref C)))
    (h1 : PySem.W.findIn K (.ref C) "__getattribute__" = some (some (.builtin "BaseException.__getattribute__"))) (h2 : PySem.W.findIn K (.ref C) "__getattr__" = some none) (h3 : PySem.W.subIn K (.ref C) (.type "BaseException") = some true) (h4 : PySem.W.hasDictIn K C = true)
    (h5 : PySem.W.findIn K (.ref C) "__class__" = some (some (.builtin "object.__class__"))) (h6 : PySem.W.specialIn K (.builtin "object.__class__") "__get__" = some (some (.builtin "getset_descriptor.__get__"))) (h7 : PySem.W.takesIn K (.builtin "object.__class__") = some true)
    (h8 : PySem.W.mroIn K C (.type "object") = some true) (t : PySem.W.typeIn K (.ref C) = some (.type "type")) (s : PySem.W.subIn K (.ref C) (.ref C) = some true)
    (e1 : PySem.W.subIn K (.ref CE) (.type "BaseException") = some true) (e2 : PySem.W.hasDictIn K CE = true) (e3 : PySem.W.typeIn K (.ref CE) = some (.type "type")) (e4 : PySem.W.subIn K (.ref C) (.ref CE) = some true) : EcX K mg x C CE :=
  ⟨PySem.W.mg_of X G a, ⟨h1, h2, h3, h4, h5, h6, h7, h8⟩, t, s, PySem.W.exm_ref e1 e2 e3 e4⟩
end
abbrev cOf {K : PySem.W.Frag} {x q : Str} {st : Stmt} {f : Addr} {fd : FuncData} {c : Addr} (_ : FunC K x q st f fd (.ref c)) : Addr := c
/-- the script as data -/
theorem scr_rep {K : PySem.W.Frag} {H : Hp} {a : Addr} {ns : List Int} (h : SqL K H a (ns.map V.int)) : (∃ Z : Addr → Prop, Good Z H (fun _ => 0) ∧ Reps K Z H [.scr ns] 0 [.ref a] (fun _ => 0)) ∨ (∃ Z : Addr → Prop, Good Z H (fun _ => 0) ∧ Reps K Z H [.lst (ns.map .int)] 0 [.ref a] (fun _ => 0)) := by
  have one : ∀ {Z : Addr → Prop} {d : D}, Rep K Z H d 0 (.ref a) (fun _ => 0) → Reps K Z H [d] 0 [.ref a] (fun _ => 0) := fun {Z d} r => by
    unfold Reps
    exact ⟨_, [], fun _ => 0, fun _ => 0, rfl, r, by unfold Reps; exact ⟨rfl, fun _ => rfl⟩, fun _ => rfl⟩
  rcases h with (h | ⟨o, h⟩) | h
  · refine .inr ⟨fun b => b = a, ⟨fun _ => Nat.zero_le _, fun b p => absurd p (Nat.lt_irrefl _), fun b z => by rw [z, h]; simp, fun b p => absurd p (Nat.lt_irrefl _)⟩, one ?_⟩
    simp only [Rep]
    exact ⟨a, ns.map V.int, rfl, ⟨rfl, h⟩, reps_ints ns⟩
  · refine .inl ⟨fun _ => False, ⟨fun _ => Nat.zero_le _, fun b p => absurd p (Nat.lt_irrefl _), fun b z => z.elim, fun b p => absurd p (Nat.lt_irrefl _)⟩, one ?_⟩
    simp only [Rep]
    exact ⟨⟨a, rfl, .inl ⟨o, h⟩⟩, fun _ => trivial⟩
  · refine .inl ⟨fun _ => False, ⟨fun _ => Nat.zero_le _, fun b p => absurd p (Nat.lt_irrefl _), fun b z => z.elim, fun b p => absurd p (Nat.lt_irrefl _)⟩, one ?_⟩
    simp only [Rep]
    exact ⟨⟨a, rfl, .inr (.inr h)⟩, fun _ => trivial⟩
theorem tabS_nil {T : List (Addr × Str)} {H : Hp} (h : ∀ p ∈ T, H p.1 = some (.tbl #[])) : LamX.Tabs T H := fun p hp => LamX.TabS.nil (h p hp)
/-- the end: the law as a walk -/
theorem walk_em {l : PySem.W.OpenLaw} {n k : Nat} {q : Program} {loose : List Str} {lv : List (Str × PySem.W.WData)} {YP : World → Heap → Prop} {d : DefRec} {K : Params → PySem.W.Frag}
    (hn : l.most = some n) (hn2 : n ≤ sizeLine) (hdf : d.params.defaults = []) (hr : Room k callerA) (hY : ∀ (w : World) (h : Heap), YP w h → (K w.params).In h)
    (F : ∀ (w : World) (mg : Str → Option Value) (fa : Addr) (h : Heap), YP w h → PySem.W.XL q lv mg h → (K w.params).In h → h.Ns mainGlobals mg → mg d.name = some (.ref fa) →
      ∃ (fd : FuncData) (cs : List (Addr × Addr)) (T : List (Addr × Str)) (Fl : List D → FR) (ps : List Str), ps.length = 1 ∧ (∀ p ∈ cs, h.get? p.2 = some { cls := .none, data := .fields #[] }) ∧ (∀ p ∈ cs, (K w.params).lookup p.2 = none) ∧ (∀ p ∈ cs, PySem.W.CodeHd h p.1 p.2) ∧ (∀ (s : Shared) (u : Value), BindsTo s fd ⟨[u], []⟩ (ps.zip [u])) ∧
        (∀ p ∈ T, ∃ c, (c, p.1) ∈ cs) ∧ (∀ ns : List Int, ns.length ≤ n → Fl [.scr ns] = .ok (.bl true, 0) ∧ Fl [.lst (ns.map .int)] = .ok (.bl true, 0)) ∧
        ∀ base : Heap, (K w.params).In base → base.Ns mainGlobals mg → (∀ p ∈ cs, LamX.TabB base mg p.1 p.2) → FnOk l.prog w (K w.params) mg base (L2.CX l.prog w) k fa fd ps (spP (K w.params) T mg 1 Fl)) :
    PySem.W.WalkO q loose (PySem.W.XL q lv) YP l.row.toRowW d [] (fun f vs => PySem.call f vs) := by
  refine Att.attach_callB hn hdf fun w s₀ s₁ mg mb fa o pm cd doc a vs ns G Y ho hd hcd hmg hobj hints hlen hbits hg => ?_
  have KX := hY w _ Y
  obtain ⟨fd, cs, T, Fl, ps, hps, hT, nT, C, hb, hTc, hF, hOk⟩ := F w mg fa _ Y G.X KX G.T.g hmg
  match ps, hps with
  | [x], _ =>
    exact LamX.law_callTs KX G.T.g G.T.b G.T.builtins G.T.nolimit hg hT nT C G.T.bmain hobj hints (Nat.le_trans hlen hn2) hr hOk hb (fun H hH hS => by
      have tb : LamX.Tabs T H := tabS_nil fun p hp => by
        obtain ⟨c, hc⟩ := hTc p hp
        exact hH _ hc
      have fin : ∀ {dk : VD}, dk = (.bl true, 0) → ∀ (v : V) (H' : Hp) (Z' : Addr → Prop) (R : Ft), LamX.Tabs T H' → Rep (K w.params) Z' H' dk.1 dk.2 v R → Good Z' H' R → ∀ Z : Addr → Prop, Tr Z H (fun _ => 0) Z' H' R → v = .bl true := fun {dk} e v H' Z' R _ r _ Z _ => by
        subst e
        simp only [Rep] at r
        exact r.1
      rcases scr_rep hS with ⟨Z, g, r⟩ | ⟨Z, g, r⟩
      · refine ⟨Z, _, rfl, g, r, tb, ?_⟩
        rw [(hF ns hlen).1]
        exact fun v H' Z' R t r g tr => fin rfl v H' Z' R t r g Z tr
      · refine ⟨Z, _, rfl, g, r, tb, ?_⟩
        rw [(hF ns hlen).2]
        exact fun v H' Z' R t r g tr => fin rfl v H' Z' R t r g Z tr) fun H e s' z => by
        obtain ⟨_, _, _, _, _, _, _, _, _, _, _, _, z⟩ := z
        exact z.elim
end Em
set_option Elab.async false
set_option linter.all false
set_option maxRecDepth 100000
set_option maxHeartbeats 4000000
/-! Em 17: what the data functions give, for the plain laws. -/
namespace Em
open PySem L2 PyProof.Rows
theorem isES_at {i : Nat} {a : Addr} {b : Bool} {ρ : En} {k : Nat} (h : ρ[i]? = some (some (.adr a, k))) : isES i a b ρ = some (.bl b) := by
  unfold isES; rw [h]; exact if_pos rfl
theorem shaped_int (i : Int) : SeqAt.shaped (.int i) = true := rfl
theorem shaped_bl (i : Bool) : SeqAt.shaped (.bool i) = true := rfl
theorem eqO_int (i j : Int) : eqO [.int i, .int j] = some (.bl (decide (i = j))) := by
  unfold eqO
  simp only [toP, shaped_int, and_self, if_true]
  show some (D.bl (PyData.eqv (.int i) (.int j))) = _
  unfold PyData.eqv
  by_cases h : i = j
  · rw [decide_eq_true h, beq_iff_eq.mpr h]
  · rw [decide_eq_false h, beq_eq_false_iff_ne.mpr h]
theorem neO_int (i j : Int) : neO [.int i, .int j] = some (.bl (decide (i ≠ j))) := by
  unfold neO
  simp only [toP, shaped_int, and_self, if_true]
  show some (D.bl (!PyData.eqv (.int i) (.int j))) = _
  unfold PyData.eqv
  by_cases h : i = j
  · subst h; simp
  · rw [decide_eq_true h, beq_eq_false_iff_ne.mpr h]; rfl
@[simp] theorem nilM_e  (ρ : En) : nilM  ρ = (.ok [] ρ) := rfl
@[simp] theorem consM_e (f : M VD) (g : M (List VD)) (ρ : En) : consM f g ρ = (match f ρ with
  | .ok d ρ1 => (match g ρ1 with | .ok ds ρ2 => .ok (d :: ds) ρ2 | .ex x => .ex x | .no => .no)
  | .ex x => .ex x
  | .no => .no) := rfl
@[simp] theorem opM_e (o : List VD → Option VD) (f : M (List VD)) (ρ : En) : opM o f ρ = (match f ρ with
  | .ok ds ρ1 => (match o ds with | some d => .ok d ρ1 | none => .no)
  | .ex x => .ex x
  | .no => .no) := rfl
@[simp] theorem rdM_e (i : Nat) (ρ : En) : rdM i ρ = (match ρ[i]? with
  | some (some dk) => .ok (dk.1, 0) (ρ.set i (some (dk.1, 0)))
  | _ => .no) := rfl
@[simp] theorem cM_e (d : D) (ρ : En) : cM d ρ = (.ok (d, 0) ρ) := rfl
@[simp] theorem stM_e (h : En → Option D) (ρ : En) : stM h ρ = (match h ρ with
  | some d => (match toV d with | some _ => .ok (d, 0) ρ | none => .no)
  | none => .no) := rfl
@[simp] theorem stT_e (h : En → Option D) (ρ : En) : stT h ρ = (match h ρ with
  | some (.bl b) => .ok b ρ
  | _ => .no) := rfl
@[simp] theorem valT_e (f : M VD) (ρ : En) : valT f ρ = (match f ρ with
  | .ok (.bl b, _) ρ1 => .ok b ρ1
  | .ok _ _ => .no
  | .ex x => .ex x
  | .no => .no) := rfl
@[simp] theorem notT_e (f : M Bool) (ρ : En) : notT f ρ = (match f ρ with | .ok b ρ1 => .ok (!b) ρ1 | .ex x => .ex x | .no => .no) := rfl
@[simp] theorem andT_e (f g : M Bool) (ρ : En) : andT f g ρ = (match f ρ with | .ok true ρ1 => g ρ1 | .ok false ρ1 => .ok false ρ1 | .ex x => .ex x | .no => .no) := rfl
@[simp] theorem orT_e (f g : M Bool) (ρ : En) : orT f g ρ = (match f ρ with | .ok true ρ1 => .ok true ρ1 | .ok false ρ1 => g ρ1 | .ex x => .ex x | .no => .no) := rfl
@[simp] theorem ifM_e (c : M Bool) (f g : M VD) (ρ : En) : ifM c f g ρ = (match c ρ with | .ok true ρ1 => f ρ1 | .ok false ρ1 => g ρ1 | .ex x => .ex x | .no => .no) := rfl
@[simp] theorem andM_e (f g : M VD) (ρ : En) : andM f g ρ = (match f ρ with | .ok (.bl true, _) ρ1 => g ρ1 | .ok (.bl false, _) ρ1 => .ok (.bl false, 0) ρ1 | .ok _ _ => .no | .ex x => .ex x | .no => .no) := rfl
@[simp] theorem orM_e (f g : M VD) (ρ : En) : orM f g ρ = (match f ρ with | .ok (.bl true, _) ρ1 => .ok (.bl true, 0) ρ1 | .ok (.bl false, _) ρ1 => g ρ1 | .ok _ _ => .no | .ex x => .ex x | .no => .no) := rfl
@[simp] theorem vS_e (i : Nat) (ρ : En) : vS i ρ = (match ρ[i]? with | some (some dk) => some dk.1 | _ => none) := rfl
@[simp] theorem cS_e (d : D) (ρ : En) : cS d ρ = (some d) := rfl
@[simp] theorem nilS_e  (ρ : En) : nilS  ρ = (some []) := rfl
@[simp] theorem consS_e (f : En → Option D) (g : En → Option (List D)) (ρ : En) : consS f g ρ = (match f ρ, g ρ with | some d, some ds => some (d :: ds) | _, _ => none) := rfl
@[simp] theorem opS_e (o : List D → Option D) (g : En → Option (List D)) (ρ : En) : opS o g ρ = ((g ρ).bind o) := rfl
@[simp] theorem bor_e (f : M (List VD)) (h : En → Option D) (o : List D → Option D) (ρ : En) : bor f h o ρ = (match f ρ with
  | .ok ds ρ1 => (match h ρ1 with | some d => (match o (ds.map (·.1) ++ [d]) with | some r => .ok (r, 0) ρ1 | none => .no) | none => .no)
  | .ex x => .ex x
  | .no => .no) := rfl
@[simp] theorem chM_e (h : En → Option D) (f : M VD) (ρ : En) : chM h f ρ = (match (h ρ).bind fun d => (toV d).map fun _ => d with
  | some d => .ok (d, 0) ρ
  | none => f ρ) := rfl
@[simp] theorem notM_e (f : M VD) (ρ : En) : notM f ρ = (match f ρ with | .ok (.bl b, _) ρ1 => .ok (.bl (!b), 0) ρ1 | .ok _ _ => .no | .ex x => .ex x | .no => .no) := rfl
@[simp] theorem nxS_e  (ρ : En) : nxS  ρ = (.nx ρ) := rfl
@[simp] theorem seqS_e (f g : MS) (ρ : En) : seqS f g ρ = (match f ρ with | .nx ρ1 => g ρ1 | r => r) := rfl
@[simp] theorem retS_e (f : M VD) (ρ : En) : retS f ρ = (match f ρ with | .ok dk ρ1 => .rt dk ρ1 | .ex x => .ex x | .no => .no) := rfl
@[simp] theorem retV_e (i : Nat) (ρ : En) : retV i ρ = (match ρ[i]? with | some (some dk) => .rt dk (ρ.set i none) | _ => .no) := rfl
@[simp] theorem retN_e  (ρ : En) : retN  ρ = (.rt (.non, 0) ρ) := rfl
@[simp] theorem dropS_e (f : M VD) (ρ : En) : dropS f ρ = (match f ρ with | .ok _ ρ1 => .nx ρ1 | .ex x => .ex x | .no => .no) := rfl
@[simp] theorem ifS_e (c : M Bool) (f g : MS) (ρ : En) : ifS c f g ρ = (match c ρ with | .ok true ρ1 => f ρ1 | .ok false ρ1 => g ρ1 | .ex x => .ex x | .no => .no) := rfl
@[simp] theorem setS_e (i : Nat) (f : M VD) (ρ : En) : setS i f ρ = (match f ρ with
  | .ok dk ρ1 => (match ρ1[i]? with | some _ => .nx (ρ1.set i (some dk)) | none => .no)
  | .ex x => .ex x
  | .no => .no) := rfl
@[simp] theorem parS_e (i j : Nat) (f : M (List VD)) (ρ : En) : parS i j f ρ = (match f ρ with
  | .ok [d, e] ρ1 => (match ρ1[i]?, ρ1[j]? with | some _, some _ => .nx ((ρ1.set i (some d)).set j (some e)) | _, _ => .no)
  | .ok _ _ => .no
  | .ex x => .ex x
  | .no => .no) := rfl
@[simp] theorem asgS_e (t : D → En → Option En) (f : M VD) (ρ : En) : asgS t f ρ = (match f ρ with
  | .ok dk ρ1 => (match t dk.1 ρ1 with | some ρ2 => .nx ρ2 | none => .no)
  | .ex x => .ex x
  | .no => .no) := rfl
@[simp] theorem setixS_e (i : Nat) (h : En → Option D) (f : M VD) (ρ : En) : setixS i h f ρ = (match f ρ with
  | .ok dk ρ1 => (match ρ1[i]?, h ρ1 with
    | some (some (.lst ds, _ + 1)), some (.int z) => (match ixN ds.length z with | some j => .nx (ρ1.set i (some (.lst (ds.set j dk.1), 1))) | none => .no)
    | _, _ => .no)
  | .ex x => .ex x
  | .no => .no) := rfl
@[simp] theorem appS_e (i : Nat) (f : M VD) (ρ : En) : appS i f ρ = (match ρ[i]? with
  | some (some (.lst _, _)) => (match f ρ with
    | .ok dk ρ1 => (match ρ1[i]? with
      | some (some (.lst ds, k + 1)) => if ds.length < 1000000 then .nx (ρ1.set i (some (.lst (ds ++ [dk.1]), min k dk.2 + 1))) else .no
      | _ => .no)
    | .ex x => .ex x
    | .no => .no)
  | _ => .no) := rfl
@[simp] theorem seqM_e (f : M VD) (ρ : En) : seqM f ρ = (match f ρ with
  | .ok (.lst ds, _) ρ1 => .ok ds ρ1
  | .ok (.tup ds, _) ρ1 => .ok ds ρ1
  | .ok _ _ => .no
  | .ex x => .ex x
  | .no => .no) := rfl
@[simp] theorem opI_e (o : List VD → Option (List D)) (f : M (List VD)) (ρ : En) : opI o f ρ = (match f ρ with
  | .ok ds ρ1 => (match o ds with | some r => .ok r ρ1 | none => .no)
  | .ex x => .ex x
  | .no => .no) := rfl
@[simp] theorem forS_e (f : M (List D)) (t : D → En → Option En) (m : MS) (ρ : En) : forS f t m ρ = (match f ρ with
  | .ok ds ρ1 => forL t m ds ρ1
  | .ex x => .ex x
  | .no => .no) := rfl
@[simp] theorem nobM_e  (ρ : En) : nobM  ρ = (some none) := rfl
@[simp] theorem obM_e (h : En → Option D) (ρ : En) : obM h ρ = (match h ρ with | some (.int i) => some (some i) | _ => none) := rfl
@[simp] theorem slM_e (f : M VD) (lo hi : En → Option (Option Int)) (ρ : En) : slM f lo hi ρ = (match f ρ with
  | .ok dk ρ1 => (match lo ρ1, hi ρ1 with | some l, some h => (match slO dk.1 l h with | some r => .ok r ρ1 | none => .no) | _, _ => .no)
  | .ex x => .ex x
  | .no => .no) := rfl
@[simp] theorem stO_e (o : List D → Option VD) (h : En → Option (List D)) (ρ : En) : stO o h ρ = (match (h ρ).bind o with | some dk => .ok dk ρ | none => .no) := rfl
@[simp] theorem methM_e (ty : D → Bool) (o : D → D → Option D) (f g : M VD) (ρ : En) : methM ty o f g ρ = (match f ρ with
  | .ok dk ρ1 => if ty dk.1 = true then (match g ρ1 with
    | .ok dk2 ρ2 => (match o dk.1 dk2.1 with | some r => .ok (r, 0) ρ2 | none => .no)
    | .ex x => .ex x
    | .no => .no) else .no
  | .ex x => .ex x
  | .no => .no) := rfl
@[simp] theorem callM_e (F : List D → FR) (fs : M (List VD)) (ρ : En) : callM F fs ρ = (match fs ρ with
  | .ok ds ρ1 => (match F (ds.map (·.1)) with | .ok dk => .ok dk ρ1 | .ex x => .ex x | .no => .no)
  | .ex x => .ex x
  | .no => .no) := rfl
@[simp] theorem callI_e (F : D → List D → FI) (i : Nat) (fs : M (List VD)) (ρ : En) : callI F i fs ρ = (match ρ[i]? with
  | some (some _) => (match fs ρ with
    | .ok ds ρ1 => (match ρ1[i]? with
      | some (some (d0, k + 1)) => (match F d0 (ds.map (·.1)) with | .ok dk d1 => .ok dk (ρ1.set i (some (d1, 1))) | .ex x => .ex x | .no => .no)
      | _ => .no)
    | .ex x => .ex x
    | .no => .no)
  | _ => .no) := rfl
@[simp] theorem lamM_e (cap : List Nat) (wf : Str → Option Str) (s0 : Str) (f : M VD) (ρ : En) : lamM cap wf s0 f ρ = (match f (mask (frzAll cap ρ)) with
  | .ok _ _ => .ok (.str s0, 0) (frzAll cap ρ)
  | .ex x => (match wf x with | some s => .ok (.str s, 0) (frzAll cap ρ) | none => .no)
  | .no => .no) := rfl
@[simp] theorem ntM_e (f : M VD) (ρ : En) : ntM f ρ = (match f ρ with | .ok dk ρ1 => .ok (ntD dk.1, dk.2) ρ1 | .ex x => .ex x | .no => .no) := rfl
@[simp] theorem ntS_e (f : En → Option D) (ρ : En) : ntS f ρ = ((f ρ).map ntD) := rfl
@[simp] theorem cM2_e (dk : VD) (ρ : En) : cM2 dk ρ = (.ok dk ρ) := rfl
@[simp] theorem raiseS_e (x : Str) (ρ : En) : raiseS x ρ = (.ex x) := rfl
@[simp] theorem yesM_e  (ρ : En) : yesM  ρ = (.ok true ρ) := rfl
theorem isi_eq {n : String} {d : D} (h : ∀ a, d ≠ .adr a) : isiO n [d] = (kitB (tyN d) n).map .bl := by
  cases d with
  | adr a => exact absurd rfl (h a)
  | _ => rfl
def noA : D → Bool | .adr _ => false | .ntp _ => false | _ => true
def isI : D → Bool | .int _ => true | _ => false
def isNum : D → Bool | .int _ => true | .bl _ => true | _ => false
def isBl : D → Bool | .bl _ => true | _ => false
def isTp : D → Bool | .tup _ => true | _ => false
def isSt : D → Bool | .str _ => true | _ => false
theorem kb_NoneType_int : kitB "NoneType" "int" = some false := by decide +kernel
theorem kb_bool_int : kitB "bool" "int" = some true := by decide +kernel
theorem kb_int_int : kitB "int" "int" = some true := by decide +kernel
theorem kb_str_int : kitB "str" "int" = some false := by decide +kernel
theorem kb_tuple_int : kitB "tuple" "int" = some false := by decide +kernel
theorem kb_list_int : kitB "list" "int" = some false := by decide +kernel
theorem kb_dict_int : kitB "dict" "int" = some false := by decide +kernel
theorem isi_int {d : D} (h : noA d = true) : isiO "int" [d] = some (.bl (isNum d)) := by
  rw [isi_eq (by intro a e; subst e; cases h)]
  cases d <;> simp [tyN, isNum, noA, kb_NoneType_int, kb_bool_int, kb_int_int, kb_str_int, kb_tuple_int, kb_list_int, kb_dict_int] at h ⊢
theorem kb_NoneType_bool : kitB "NoneType" "bool" = some false := by decide +kernel
theorem kb_bool_bool : kitB "bool" "bool" = some true := by decide +kernel
theorem kb_int_bool : kitB "int" "bool" = some false := by decide +kernel
theorem kb_str_bool : kitB "str" "bool" = some false := by decide +kernel
theorem kb_tuple_bool : kitB "tuple" "bool" = some false := by decide +kernel
theorem kb_list_bool : kitB "list" "bool" = some false := by decide +kernel
theorem kb_dict_bool : kitB "dict" "bool" = some false := by decide +kernel
theorem isi_bool {d : D} (h : noA d = true) : isiO "bool" [d] = some (.bl (isBl d)) := by
  rw [isi_eq (by intro a e; subst e; cases h)]
  cases d <;> simp [tyN, isBl, noA, kb_NoneType_bool, kb_bool_bool, kb_int_bool, kb_str_bool, kb_tuple_bool, kb_list_bool, kb_dict_bool] at h ⊢
theorem kb_NoneType_tuple : kitB "NoneType" "tuple" = some false := by decide +kernel
theorem kb_bool_tuple : kitB "bool" "tuple" = some false := by decide +kernel
theorem kb_int_tuple : kitB "int" "tuple" = some false := by decide +kernel
theorem kb_str_tuple : kitB "str" "tuple" = some false := by decide +kernel
theorem kb_tuple_tuple : kitB "tuple" "tuple" = some true := by decide +kernel
theorem kb_list_tuple : kitB "list" "tuple" = some false := by decide +kernel
theorem kb_dict_tuple : kitB "dict" "tuple" = some false := by decide +kernel
theorem isi_tuple {d : D} (h : noA d = true) : isiO "tuple" [d] = some (.bl (isTp d)) := by
  rw [isi_eq (by intro a e; subst e; cases h)]
  cases d <;> simp [tyN, isTp, noA, kb_NoneType_tuple, kb_bool_tuple, kb_int_tuple, kb_str_tuple, kb_tuple_tuple, kb_list_tuple, kb_dict_tuple] at h ⊢
theorem kb_NoneType_str : kitB "NoneType" "str" = some false := by decide +kernel
theorem kb_bool_str : kitB "bool" "str" = some false := by decide +kernel
theorem kb_int_str : kitB "int" "str" = some false := by decide +kernel
theorem kb_str_str : kitB "str" "str" = some true := by decide +kernel
theorem kb_tuple_str : kitB "tuple" "str" = some false := by decide +kernel
theorem kb_list_str : kitB "list" "str" = some false := by decide +kernel
theorem kb_dict_str : kitB "dict" "str" = some false := by decide +kernel
theorem isi_str {d : D} (h : noA d = true) : isiO "str" [d] = some (.bl (isSt d)) := by
  rw [isi_eq (by intro a e; subst e; cases h)]
  cases d <;> simp [tyN, isSt, noA, kb_NoneType_str, kb_bool_str, kb_int_str, kb_str_str, kb_tuple_str, kb_list_str, kb_dict_str] at h ⊢
theorem chS_le {f g h : En → Option D} {ρ : En} {a b c : Int} (hf : f ρ = some (.int a)) (hg : g ρ = some (.int b)) (hh : h ρ = some (.int c)) : chS leO leO f g h ρ = some (.bl (decide (a ≤ b ∧ b ≤ c))) := by
  unfold chS
  rw [hf, hg]
  simp only [leO]
  by_cases h1 : a ≤ b
  · simp [h1, hh]
  · simp [h1]
/-- a comprehension whose items are still -/
theorem compL_pure {t : D → En → Option En} {tt : M Bool} {te : M VD} {vs : List Nat} {ρ0 : En} {p : D → Bool} {g : D → D} : ∀ (ds : List D) (acc : List VD),
    (∀ d ∈ ds, ∃ ρa ρb, t d ρ0 = some ρa ∧ tt ρa = .ok (p d) ρb ∧ (p d = true → ∃ k ρc, te ρb = .ok (g d, k) ρc ∧ wipeE ρc vs = ρ0) ∧ (p d = false → wipeE ρb vs = ρ0)) →
    ∃ out : List VD, compL t tt te vs 0 ds acc ρ0 = .ok (acc ++ out) ρ0 ∧ out.map (·.1) = (ds.filter p).map g
  | [], acc, _ => ⟨[], by simp [compL]⟩
  | d :: r, acc, h => by
    obtain ⟨ρa, ρb, h1, h2, h3, h4⟩ := h d List.mem_cons_self
    have hr := fun acc' => compL_pure (g := g) r acc' fun x hx => h x (List.mem_cons_of_mem _ hx)
    cases hp : p d with
    | true =>
      obtain ⟨k, ρc, h5, h6⟩ := h3 hp
      rw [hp] at h2
      obtain ⟨out, e1, e2⟩ := hr (acc ++ [(g d, k)])
      refine ⟨(g d, k) :: out, ?_, ?_⟩
      · unfold compL
        rw [h1]; dsimp only
        rw [h2]; dsimp only
        rw [h5]; dsimp only
        rw [if_pos (Nat.zero_le _), h6, e1]
        simp
      · simp [hp, e2]
    | false =>
      rw [hp] at h2
      obtain ⟨out, e1, e2⟩ := hr acc
      refine ⟨out, ?_, ?_⟩
      · unfold compL
        rw [h1]; dsimp only
        rw [h2]; dsimp only
        rw [h4 hp, e1]
      · simp [hp, e2]
theorem compM_pure {fi : M (List D)} {t : D → En → Option En} {tt : M Bool} {te : M VD} {vs : List Nat} {ρ ρ1 : En} {ds : List D} (p : D → Bool) (g : D → D) (hfi : fi ρ = .ok ds ρ1) (hlen : ds.length ≤ 1000000) (hown : ownOk ρ1 vs = true)
    (h : ∀ d ∈ ds, ∃ ρa ρb, t d (wipeE ρ1 vs) = some ρa ∧ tt ρa = .ok (p d) ρb ∧ (p d = true → ∃ k ρc, te ρb = .ok (g d, k) ρc ∧ wipeE ρc vs = wipeE ρ1 vs) ∧ (p d = false → wipeE ρb vs = wipeE ρ1 vs)) :
    compM fi t tt te vs 0 ρ = .ok (.lst ((ds.filter p).map g), 1) (restE (wipeE ρ1 vs) ρ1 vs) := by
  obtain ⟨out, e1, e2⟩ := compL_pure (g := g) ds [] h
  unfold compM
  rw [hfi]; dsimp only
  rw [if_pos ⟨hlen, hown⟩, e1]
  simp [e2]
theorem filter_yes {α : Type} (l : List α) : l.filter (fun _ => true) = l := by simp
theorem compM_map {fi : M (List D)} {t : D → En → Option En} {te : M VD} {vs : List Nat} {ρ ρ1 : En} {ds : List D} (g : D → D) (hfi : fi ρ = .ok ds ρ1) (hlen : ds.length ≤ 1000000) (hown : ownOk ρ1 vs = true)
    (h : ∀ d ∈ ds, ∃ ρa, t d (wipeE ρ1 vs) = some ρa ∧ ∃ k ρc, te ρa = .ok (g d, k) ρc ∧ wipeE ρc vs = wipeE ρ1 vs) :
    compM fi t yesM te vs 0 ρ = .ok (.lst (ds.map g), 1) (restE (wipeE ρ1 vs) ρ1 vs) := by
  have := compM_pure (fi := fi) (t := t) (tt := yesM) (te := te) (vs := vs) (fun _ => true) g hfi hlen hown fun d hd => by
    obtain ⟨ρa, h1, h2⟩ := h d hd
    exact ⟨ρa, ρa, h1, rfl, fun _ => h2, fun z => by cases z⟩
  rw [filter_yes] at this
  exact this
/-- a comprehension that changes the state: an invariant -/
theorem compL_inv {t : D → En → Option En} {tt : M Bool} {te : M VD} {vs : List Nat} (P : Nat → List VD → En → Prop) : ∀ (ds : List D) (i : Nat) (acc : List VD) (ρ : En), P i acc ρ →
    (∀ j d acc ρ, ds[j]? = some d → P (i + j) acc ρ → ∃ ρa ρb, t d ρ = some ρa ∧ ((tt ρa = .ok true ρb ∧ ∃ y ρc, te ρb = .ok y ρc ∧ P (i + j + 1) (acc ++ [y]) (wipeE ρc vs)) ∨ (tt ρa = .ok false ρb ∧ P (i + j + 1) acc (wipeE ρb vs)))) →
    ∃ acc' ρ', compL t tt te vs 0 ds acc ρ = .ok acc' ρ' ∧ P (i + ds.length) acc' ρ'
  | [], i, acc, ρ, h, _ => ⟨acc, ρ, by simp [compL], h⟩
  | d :: r, i, acc, ρ, h, st => by
    obtain ⟨ρa, ρb, h1, h2⟩ := st 0 d acc ρ rfl h
    have recur := fun acc' ρ' (h' : P (i + 1) acc' ρ') => compL_inv P r (i + 1) acc' ρ' h' fun j d a p hj hp => by
      have := st (j + 1) d a p (by simpa using hj) (by rw [show i + (j + 1) = i + 1 + j by omega]; exact hp)
      rw [show i + (j + 1) = i + 1 + j by omega] at this
      exact this
    have el : i + (d :: r).length = i + 1 + r.length := by simp; omega
    rw [el]
    unfold compL
    rw [h1]; dsimp only
    rcases h2 with ⟨h2, y, ρc, h3, h4⟩ | ⟨h2, h4⟩
    · rw [h2]; dsimp only
      rw [h3]; dsimp only
      rw [if_pos (Nat.zero_le _)]
      exact recur _ _ h4
    · rw [h2]; dsimp only
      exact recur _ _ h4
theorem forL_inv {t : D → En → Option En} {m : MS} (P : Nat → En → Prop) : ∀ (ds : List D) (i : Nat) (ρ : En), P i ρ →
    (∀ j d ρ, ds[j]? = some d → P (i + j) ρ → ∃ ρa ρb, t d ρ = some ρa ∧ m ρa = .nx ρb ∧ P (i + j + 1) ρb) → ∃ ρ', forL t m ds ρ = .nx ρ' ∧ P (i + ds.length) ρ'
  | [], i, ρ, h, _ => ⟨ρ, rfl, h⟩
  | d :: r, i, ρ, h, st => by
    obtain ⟨ρa, ρb, h1, h2, h3⟩ := st 0 d ρ rfl h
    have := forL_inv P r (i + 1) ρb h3 fun j d p hj hp => by
      have := st (j + 1) d p (by simpa using hj) (by rw [show i + (j + 1) = i + 1 + j by omega]; exact hp)
      rw [show i + (j + 1) = i + 1 + j by omega] at this
      exact this
    rw [show i + (d :: r).length = i + 1 + r.length by simp; omega]
    unfold forL
    rw [h1]; dsimp only
    rw [h2]
    exact this
theorem rngD_get {lo : Int} {n j : Nat} {d : D} (h : (rngD lo n)[j]? = some d) : j < n ∧ d = .int (lo + j) := by
  unfold rngD at h
  rw [List.getElem?_map] at h
  cases e : (List.range n)[j]? with
  | none => rw [e] at h; cases h
  | some k =>
    rw [e] at h; cases h
    obtain ⟨h1, h2⟩ := List.getElem?_eq_some_iff.mp e
    simp at h1 h2
    subst h2
    exact ⟨h1, rfl⟩
theorem rngD_len (lo : Int) (n : Nat) : (rngD lo n).length = n := by simp [rngD]
theorem atI_nat {α : Type} {xs : List α} {i : Int} (h0 : 0 ≤ i) (h1 : i < xs.length) : atI xs i = xs[i.toNat]? := by
  unfold atI ixN
  simp [h0, h1]
theorem intsD_map (ns : List Int) : intsD (ns.map .int) = some ns := by
  induction ns with
  | nil => rfl
  | cons n r ih => simp [intsD, ih]
theorem boolsD_map {α : Type} (f : α → Bool) (xs : List α) : boolsD (xs.map fun x => .bl (f x)) = some (xs.map f) := by
  induction xs with
  | nil => rfl
  | cons n r ih => simp [boolsD, ih]
end Em
set_option Elab.async false
set_option linter.all false
set_option maxRecDepth 100000
set_option maxHeartbeats 4000000
/-! Em 18: more for the plain laws. -/
namespace Em
open PySem L2 PyProof.Rows
@[simp] theorem isi_int_non  : isiO "int" [.non] = some (.bl (isNum (.non))) := isi_int rfl
@[simp] theorem isi_int_bl (b : Bool) : isiO "int" [.bl b] = some (.bl (isNum (.bl b))) := isi_int rfl
@[simp] theorem isi_int_int (i : Int) : isiO "int" [.int i] = some (.bl (isNum (.int i))) := isi_int rfl
@[simp] theorem isi_int_str (x : Str) : isiO "int" [.str x] = some (.bl (isNum (.str x))) := isi_int rfl
@[simp] theorem isi_int_tup (xs : List D) : isiO "int" [.tup xs] = some (.bl (isNum (.tup xs))) := isi_int rfl
@[simp] theorem isi_int_lst (xs : List D) : isiO "int" [.lst xs] = some (.bl (isNum (.lst xs))) := isi_int rfl
@[simp] theorem isi_int_dct (ks : List (Sum Key (List Key))) (vs : List D) : isiO "int" [.dct ks vs] = some (.bl (isNum (.dct ks vs))) := isi_int rfl
@[simp] theorem isi_bool_non  : isiO "bool" [.non] = some (.bl (isBl (.non))) := isi_bool rfl
@[simp] theorem isi_bool_bl (b : Bool) : isiO "bool" [.bl b] = some (.bl (isBl (.bl b))) := isi_bool rfl
@[simp] theorem isi_bool_int (i : Int) : isiO "bool" [.int i] = some (.bl (isBl (.int i))) := isi_bool rfl
@[simp] theorem isi_bool_str (x : Str) : isiO "bool" [.str x] = some (.bl (isBl (.str x))) := isi_bool rfl
@[simp] theorem isi_bool_tup (xs : List D) : isiO "bool" [.tup xs] = some (.bl (isBl (.tup xs))) := isi_bool rfl
@[simp] theorem isi_bool_lst (xs : List D) : isiO "bool" [.lst xs] = some (.bl (isBl (.lst xs))) := isi_bool rfl
@[simp] theorem isi_bool_dct (ks : List (Sum Key (List Key))) (vs : List D) : isiO "bool" [.dct ks vs] = some (.bl (isBl (.dct ks vs))) := isi_bool rfl
@[simp] theorem isi_tuple_non  : isiO "tuple" [.non] = some (.bl (isTp (.non))) := isi_tuple rfl
@[simp] theorem isi_tuple_bl (b : Bool) : isiO "tuple" [.bl b] = some (.bl (isTp (.bl b))) := isi_tuple rfl
@[simp] theorem isi_tuple_int (i : Int) : isiO "tuple" [.int i] = some (.bl (isTp (.int i))) := isi_tuple rfl
@[simp] theorem isi_tuple_str (x : Str) : isiO "tuple" [.str x] = some (.bl (isTp (.str x))) := isi_tuple rfl
@[simp] theorem isi_tuple_tup (xs : List D) : isiO "tuple" [.tup xs] = some (.bl (isTp (.tup xs))) := isi_tuple rfl
@[simp] theorem isi_tuple_lst (xs : List D) : isiO "tuple" [.lst xs] = some (.bl (isTp (.lst xs))) := isi_tuple rfl
@[simp] theorem isi_tuple_dct (ks : List (Sum Key (List Key))) (vs : List D) : isiO "tuple" [.dct ks vs] = some (.bl (isTp (.dct ks vs))) := isi_tuple rfl
@[simp] theorem isi_str_non  : isiO "str" [.non] = some (.bl (isSt (.non))) := isi_str rfl
@[simp] theorem isi_str_bl (b : Bool) : isiO "str" [.bl b] = some (.bl (isSt (.bl b))) := isi_str rfl
@[simp] theorem isi_str_int (i : Int) : isiO "str" [.int i] = some (.bl (isSt (.int i))) := isi_str rfl
@[simp] theorem isi_str_str (x : Str) : isiO "str" [.str x] = some (.bl (isSt (.str x))) := isi_str rfl
@[simp] theorem isi_str_tup (xs : List D) : isiO "str" [.tup xs] = some (.bl (isSt (.tup xs))) := isi_str rfl
@[simp] theorem isi_str_lst (xs : List D) : isiO "str" [.lst xs] = some (.bl (isSt (.lst xs))) := isi_str rfl
@[simp] theorem isi_str_dct (ks : List (Sum Key (List Key))) (vs : List D) : isiO "str" [.dct ks vs] = some (.bl (isSt (.dct ks vs))) := isi_str rfl
@[simp] theorem isi_int_scr (xs : List Int) : isiO "int" [.scr xs] = some (.bl (isNum (.scr xs))) := isi_int rfl
@[simp] theorem isi_bool_scr (xs : List Int) : isiO "bool" [.scr xs] = some (.bl (isBl (.scr xs))) := isi_bool rfl
@[simp] theorem isi_tuple_scr (xs : List Int) : isiO "tuple" [.scr xs] = some (.bl (isTp (.scr xs))) := isi_tuple rfl
@[simp] theorem isi_str_scr (xs : List Int) : isiO "str" [.scr xs] = some (.bl (isSt (.scr xs))) := isi_str rfl
theorem opI_at {o : List VD → Option (List D)} {fs : M (List VD)} {ρ ρ1 : En} {ds : List VD} {r : List D} (h1 : fs ρ = .ok ds ρ1) (h2 : o ds = some r) : opI o fs ρ = .ok r ρ1 := by
  unfold opI; rw [h1]; dsimp only; rw [h2]
theorem forS_at {fi : M (List D)} {t : D → En → Option En} {m : MS} {ρ ρ1 : En} {ds : List D} (h : fi ρ = .ok ds ρ1) : forS fi t m ρ = forL t m ds ρ1 := by
  unfold forS; rw [h]
theorem runP_rt {n : Nat} {m : MS} {ds : List D} {dk : VD} {ρ : En} (h : m (entry n (ds.map fun d => (d, 0))) = .rt dk ρ) : runP n m ds = .ok dk := by unfold runP; rw [h]
theorem runP_nx {n : Nat} {m : MS} {ds : List D} {ρ : En} (h : m (entry n (ds.map fun d => (d, 0))) = .nx ρ) : runP n m ds = .ok (.non, 0) := by unfold runP; rw [h]
theorem runP_ex {n : Nat} {m : MS} {ds : List D} {x : Str} (h : m (entry n (ds.map fun d => (d, 0))) = .ex x) : runP n m ds = .ex x := by unfold runP; rw [h]
theorem runI_rt {n : Nat} {m : MS} {d0 d1 : D} {ds : List D} {dk : VD} {ρ : En} {k : Nat} (h : m (entry n ((d0, 1) :: ds.map fun d => (d, 0))) = .rt dk ρ) (e : ρ[0]? = some (some (d1, k + 1))) : runI n m d0 ds = .ok dk d1 := by unfold runI; rw [h]; dsimp only; rw [e]
theorem seqS_nx {f g : MS} {ρ ρ1 : En} (h : f ρ = .nx ρ1) : seqS f g ρ = g ρ1 := by unfold seqS; rw [h]
theorem seqS_rt {f g : MS} {ρ ρ1 : En} {dk : VD} (h : f ρ = .rt dk ρ1) : seqS f g ρ = .rt dk ρ1 := by unfold seqS; rw [h]
theorem seqS_ex {f g : MS} {ρ : En} {x : Str} (h : f ρ = .ex x) : seqS f g ρ = .ex x := by unfold seqS; rw [h]
theorem rng2_at {a b : Int} {k l : Nat} (h : -1000000000 ≤ a ∧ a ≤ 1000000000 ∧ -1000000000 ≤ b ∧ b ≤ 1000000000) : rng2O [(.int a, k), (.int b, l)] = some (rngD a (b - a).toNat) := if_pos h
theorem rng1_at {a : Int} {k : Nat} (h : a ≤ 1000000000 ∧ -1000000000 ≤ a) : rng1O [(.int a, k)] = some (rngD 0 a.toNat) := if_pos h
end Em
set_option Elab.async false
set_option linter.all false
set_option maxRecDepth 100000
set_option maxHeartbeats 4000000
namespace Em
open PySem L2 PyProof.Rows
/-! printed by gen.py: the defs of the text, what they do to data, and that they do it -/
abbrev pw : PySem.Program := PySem.Challenge.pw_emberhall_k60_whole_rotas_and_crews_on_d
def topS (i : Nat) : Stmt := pw.main.body.getD i (.Pass ⟨0, 0, 0, 0⟩)
-- const DAY_HOURS
-- const DAY_WATCH
-- const MOST_CREWS
-- const MOST_DAY
-- const MOST_ROTA_DAYS
-- const NIGHT_WATCH
-- const RESTING
-- const WATCH_BEGINS
-- const WATCH_HOURS
abbrev k_DAY_HOURS : D := .int 24
abbrev k_DAY_WATCH : D := .int 1
abbrev k_MOST_CREWS : D := .int 8
abbrev k_MOST_DAY : D := .int 1000000
abbrev k_MOST_ROTA_DAYS : D := .int 28
abbrev k_NIGHT_WATCH : D := .int 2
abbrev k_RESTING : D := .int 0
abbrev k_WATCH_BEGINS : D := .tup [.int 0, .int 8, .int 20]
abbrev k_WATCH_HOURS : D := .int 12
def fsuite (aa : Addr) (b_NoCrew b_NoCrews b_NoDay b_NoKind b_NoRest b_NoRota b_NoWatch b_ValueError : Bool) : MS :=
  seqS (setS 3 (opM lstO (consM (stM (isES 2 aa b_NoCrew)) (consM (stM (isES 2 aa b_NoCrews)) (consM (stM (isES 2 aa b_NoDay)) (consM (stM (isES 2 aa b_NoKind)) (nilM))))))) (
  seqS (setS 3 (opM catO (consM (rdM 3) (consM (opM lstO (consM (stM (isES 2 aa b_NoRest)) (consM (stM (isES 2 aa b_NoRota)) (consM (stM (isES 2 aa b_NoWatch)) (nilM))))) nilM)))) (
  seqS (setS 1 (cM (.str "other"))) (
  ifS (andT (valT (bor (consM (methM isLst cntO (rdM 3) (cM (.bl true))) nilM) (cS (.int 1)) eqO)) (stT (isES 2 aa b_ValueError))) (
  setS 1 (opM ixO (consM (opM lstO (consM (cM (.str "crew")) (consM (cM (.str "crews")) (consM (cM (.str "day")) (consM (cM (.str "kind")) (consM (cM (.str "rest")) (consM (cM (.str "rota")) (consM (cM (.str "watch")) (nilM))))))))) (consM (methM isLst idxO (rdM 3) (cM (.bl true))) nilM)))) (
  nxS))))
def wfL : List (Str × Str) := [("NoCrew", "crew"), ("NoCrews", "crews"), ("NoDay", "day"), ("NoKind", "kind"), ("NoRest", "rest"), ("NoRota", "rota"), ("NoWatch", "watch")]
def wf : Str → Option Str := fun x => wfL.lookup x
theorem wf_cases {x s : Str} (h : wf x = some s) : (x = "NoCrew" ∧ s = "crew") ∨ (x = "NoCrews" ∧ s = "crews") ∨ (x = "NoDay" ∧ s = "day") ∨ (x = "NoKind" ∧ s = "kind") ∨ (x = "NoRest" ∧ s = "rest") ∨ (x = "NoRota" ∧ s = "rota") ∨ (x = "NoWatch" ∧ s = "watch") := by
  have m := PySem.mem_of_lookup h
  simpa [wfL, Prod.mk.injEq] using m

def b__law_draw : MS :=
  seqS (ifS (andT (stT (opS eqO (consS (opS ixS (consS (vS 0) (consS (cS (.int 2)) nilS))) (consS (cS (.int 0)) nilS)))) (stT (opS ltO (consS (opS ixS (consS (vS 0) (consS (cS (.int 1)) nilS))) (consS (opS lenO (consS (opS ixS (consS (vS 0) (consS (cS (.int 0)) nilS))) (nilS))) nilS))))) (
  seqS (setS 2 (chM (opS ixS (consS (opS ixS (consS (vS 0) (consS (cS (.int 0)) nilS))) (consS (opS ixS (consS (vS 0) (consS (cS (.int 1)) nilS))) nilS))) (opM ixO (consM (chM (opS ixS (consS (vS 0) (consS (cS (.int 0)) nilS))) (opM ixO (consM (rdM 0) (consM (cM (.int 0)) nilM)))) (consM (chM (opS ixS (consS (vS 0) (consS (cS (.int 1)) nilS))) (opM ixO (consM (rdM 0) (consM (cM (.int 1)) nilM)))) nilM))))) (
  seqS (setixS 0 (cS (.int 1)) (chM (opS addO (consS (opS ixS (consS (vS 0) (consS (cS (.int 1)) nilS))) (consS (cS (.int 1)) nilS))) (opM catO (consM (chM (opS ixS (consS (vS 0) (consS (cS (.int 1)) nilS))) (opM ixO (consM (rdM 0) (consM (cM (.int 1)) nilM)))) (consM (cM (.int 1)) nilM))))) (
  seqS (setixS 0 (cS (.int 3)) (stM (opS modO (consS (opS intO (consS (opS addO (consS (opS addO (consS (opS mulO (consS (opS ixS (consS (vS 0) (consS (cS (.int 3)) nilS))) (consS (cS (.int 69621)) nilS))) (consS (vS 2) nilS))) (consS (cS (.int 11)) nilS))) (nilS))) (consS (cS (.int 2147483629)) nilS))))) (
  ifS (stT (opS geO (consS (vS 2) (consS (opS powO (consS (cS (.int 10)) (consS (cS (.int 18)) nilS))) nilS)))) (
  setixS 0 (cS (.int 2)) (rdM 2)) (
  nxS))))) (
  nxS)) (
  seqS (ifS (stT (opS gtO (consS (opS ixS (consS (vS 0) (consS (cS (.int 2)) nilS))) (consS (cS (.int 0)) nilS)))) (
  seqS (setS 3 (stM (opS modO (consS (opS intO (consS (opS ixS (consS (vS 0) (consS (cS (.int 2)) nilS))) (nilS))) (consS (vS 1) nilS))))) (
  seqS (setixS 0 (cS (.int 2)) (stM (opS fdivO (consS (opS ixS (consS (vS 0) (consS (cS (.int 2)) nilS))) (consS (vS 1) nilS))))) (
  retV 3))) (
  nxS)) (
  seqS (setixS 0 (cS (.int 4)) (chM (opS addO (consS (opS ixS (consS (vS 0) (consS (cS (.int 4)) nilS))) (consS (cS (.int 1)) nilS))) (opM catO (consM (chM (opS ixS (consS (vS 0) (consS (cS (.int 4)) nilS))) (opM ixO (consM (rdM 0) (consM (cM (.int 4)) nilM)))) (consM (cM (.int 1)) nilM))))) (
  seqS (setS 4 (stM (opS modO (consS (opS intO (consS (opS mulO (consS (opS intO (consS (opS addO (consS (opS ixS (consS (vS 0) (consS (cS (.int 3)) nilS))) (consS (opS mulO (consS (cS (.int 7919)) (consS (opS ixS (consS (vS 0) (consS (cS (.int 4)) nilS))) nilS))) nilS))) (nilS))) (consS (cS (.int 48271)) nilS))) (nilS))) (consS (cS (.int 2147483647)) nilS))))) (
  seqS (setS 4 (stM (opS modO (consS (opS intO (consS (opS mulO (consS (vS 4) (consS (opS addO (consS (opS fdivO (consS (vS 4) (consS (cS (.int 1009)) nilS))) (consS (cS (.int 69621)) nilS))) nilS))) (nilS))) (consS (cS (.int 2147483647)) nilS))))) (
  seqS (setS 4 (stM (opS modO (consS (opS intO (consS (opS mulO (consS (vS 4) (consS (opS addO (consS (opS fdivO (consS (vS 4) (consS (cS (.int 2003)) nilS))) (consS (cS (.int 40692)) nilS))) nilS))) (nilS))) (consS (cS (.int 2147483399)) nilS))))) (
  retS (stM (opS modO (consS (opS intO (consS (opS fdivO (consS (vS 4) (consS (cS (.int 16)) nilS))) (nilS))) (consS (vS 1) nilS))))))))))
def F__law_draw : D → List D → FI := runI 5 b__law_draw
def b__law_any : MS :=
  retS (opM ixO (consM (rdM 1) (consM (callI F__law_draw 0 (consM (stM (opS lenO (consS (vS 1) (nilS)))) (nilM))) nilM)))
def F__law_any : D → List D → FI := runI 2 b__law_any
def b__law_at : MS :=
  retS (chM (opS ixS (consS (vS 0) (consS (opS modO (consS (opS intO (consS (opS addO (consS (opS ixS (consS (vS 1) (consS (vS 2) nilS))) (consS (vS 3) nilS))) (nilS))) (consS (opS lenO (consS (vS 0) (nilS))) nilS))) nilS))) (opM ixO (consM (rdM 0) (consM (stM (opS modO (consS (opS intO (consS (opS addO (consS (opS ixS (consS (vS 1) (consS (vS 2) nilS))) (consS (vS 3) nilS))) (nilS))) (consS (opS lenO (consS (vS 0) (nilS))) nilS)))) nilM))))
def F__law_at : List D → FR := runP 4 b__law_at
def b__law_hand : MS :=
  seqS (setS 1 (compM (seqM (slM (rdM 0) (nobM) (obM (cS (.int 63))))) (tgN 2) (yesM) (stM (opS absO (consS (opS intO (consS (vS 2) (nilS))) (nilS)))) [2] 0)) (
  retS (opM lstO (consM (rdM 1) (consM (cM (.int 0)) (consM (cM (.int 0)) (consM (chM (opS addO (consS (cS (.int 1)) (consS (opS lenO (consS (vS 1) (nilS))) nilS))) (opM catO (consM (cM (.int 1)) (consM (stM (opS lenO (consS (vS 1) (nilS)))) nilM)))) (consM (cM (.int 0)) (nilM))))))))
def F__law_hand : List D → FR := runP 3 b__law_hand
def b__law_hours : MS :=
  seqS (setS 2 (opM catO (consM (chM (opS mulO (consS (cS (.int 24)) (consS (vS 0) nilS))) (opM repO (consM (cM (.int 24)) (consM (rdM 0) nilM)))) (consM (ifM (stT (opS eqO (consS (vS 1) (consS (cS (.int 1)) nilS)))) (cM (.int 8)) (cM (.int 20))) nilM)))) (
  retS (opM tupO (consM (rdM 2) (consM (chM (opS addO (consS (vS 2) (consS (cS (.int 12)) nilS))) (opM catO (consM (rdM 2) (consM (cM (.int 12)) nilM)))) (nilM)))))
def F__law_hours : List D → FR := runP 3 b__law_hours
def b__law_next : MS :=
  seqS (forS (opI rng2O (consM (cM (.int 1)) (consM (chM (opS addO (consS (opS lenO (consS (vS 0) (nilS))) (consS (cS (.int 1)) nilS))) (opM catO (consM (stM (opS lenO (consS (vS 0) (nilS)))) (consM (cM (.int 1)) nilM)))) (nilM)))) (tgN 4) (
  seqS (setS 5 (callM F__law_at (consM (rdM 0) (consM (rdM 1) (consM (rdM 2) (consM (chM (opS addO (consS (vS 3) (consS (vS 4) nilS))) (opM catO (consM (rdM 3) (consM (rdM 4) nilM)))) (nilM))))))) (
  ifS (stT (opS gtO (consS (vS 5) (consS (cS (.int 0)) nilS)))) (
  retS (opM ixO (consM (callM F__law_hours (consM (chM (opS addO (consS (vS 3) (consS (vS 4) nilS))) (opM catO (consM (rdM 3) (consM (rdM 4) nilM)))) (consM (rdM 5) (nilM)))) (consM (cM (.int 0)) nilM)))) (
  nxS)))) (
  retS (cM .non))
def F__law_next : List D → FR := runP 6 b__law_next
def b__law_least : MS :=
  seqS (setS 1 (cM .non)) (
  seqS (forS (opI enumO (consM (rdM 0) (nilM))) (tgT [tgN 2, tgN 3]) (
  ifS (stT (opS gtO (consS (vS 3) (consS (cS (.int 0)) nilS)))) (
  seqS (setS 4 (opM (liftO subO) (consM (callM F__law_next (consM (rdM 0) (consM (opM tupO (consM (cM (.int 0)) (nilM))) (consM (cM (.int 0)) (consM (rdM 2) (nilM)))))) (consM (opM ixO (consM (callM F__law_hours (consM (rdM 2) (consM (rdM 3) (nilM)))) (consM (cM (.int 1)) nilM))) nilM)))) (
  setS 1 (ifM (stT (opS isO (consS (vS 1) (consS (cS .non) nilS)))) (rdM 4) (stM (opS minO (consS (vS 1) (consS (vS 4) (nilS)))))))) (
  nxS))) (
  retV 1))
def F__law_least : List D → FR := runP 5 b__law_least
def b__law_odd : MS :=
  seqS (setS 1 (callI F__law_any 0 (consM (opM lstO (consM (cM .non) (consM (cM (.str "watch")) (consM (cM2 (.dct [] [], 2)) (nilM))))) (nilM)))) (
  seqS (forS (opI rng1O (consM (callI F__law_any 0 (consM (opM lstO (consM (cM (.int 0)) (consM (cM (.int 1)) (consM (cM (.int 18)) (consM (cM (.int 30)) (nilM)))))) (nilM))) (nilM))) (tgN 2) (
  setS 1 (callI F__law_any 0 (consM (opM lstO (consM (opM tupO (consM (rdM 1) (nilM))) (consM (opM lstO (consM (rdM 1) (nilM))) (nilM)))) (nilM))))) (
  retV 1))
def F__law_odd : D → List D → FI := runI 3 b__law_odd
def b_is_sized : MS :=
  retS (andM (stM (opS (isiO "tuple") (consS (vS 0) nilS))) (stM (chS leO leO (vS 1) (opS lenO (consS (vS 0) (nilS))) (vS 2))))
def F_is_sized : List D → FR := runP 3 b_is_sized
def b_is_integer : MS :=
  retS (andM (stM (opS (isiO "int") (consS (vS 0) nilS))) (notM (stM (opS (isiO "bool") (consS (vS 0) nilS)))))
def F_is_integer : List D → FR := runP 1 b_is_integer
def b_is_within : MS :=
  retS (andM (callM F_is_integer (consM (rdM 0) (nilM))) (stM (chS leO leO (vS 1) (vS 0) (vS 2))))
def F_is_within : List D → FR := runP 3 b_is_within
def b_is_rota : MS :=
  retS (andM (callM F_is_sized (consM (rdM 0) (consM (cM (.int 1)) (consM (cM k_MOST_ROTA_DAYS) (nilM))))) (opM (liftO allO) (consM (compM (seqM (rdM 0)) (tgN 1) (yesM) (callM F_is_within (consM (rdM 1) (consM (cM k_RESTING) (consM (cM k_NIGHT_WATCH) (nilM))))) [1] 0) (nilM))))
def F_is_rota : List D → FR := runP 2 b_is_rota
def b_check_rota : MS :=
  ifS (notT (valT (callM F_is_rota (consM (rdM 0) (nilM))))) (
  raiseS "NoRota") (
  nxS)
def F_check_rota : List D → FR := runP 1 b_check_rota
def b_had : MS :=
  retS (chM (opS ixS (consS (vS 0) (consS (opS modO (consS (opS addO (consS (vS 1) (consS (vS 2) nilS))) (consS (opS lenO (consS (vS 0) (nilS))) nilS))) nilS))) (opM ixO (consM (rdM 0) (consM (stM (opS modO (consS (opS addO (consS (vS 1) (consS (vS 2) nilS))) (consS (opS lenO (consS (vS 0) (nilS))) nilS)))) nilM))))
def F_had : List D → FR := runP 3 b_had
def b_next_watch : MS :=
  seqS (forS (opI rng2O (consM (cM (.int 1)) (consM (chM (opS addO (consS (opS lenO (consS (vS 0) (nilS))) (consS (cS (.int 1)) nilS))) (opM catO (consM (stM (opS lenO (consS (vS 0) (nilS)))) (consM (cM (.int 1)) nilM)))) (nilM)))) (tgN 4) (
  seqS (setS 5 (callM F_had (consM (rdM 0) (consM (rdM 1) (consM (chM (opS addO (consS (vS 2) (consS (opS mulO (consS (vS 3) (consS (vS 4) nilS))) nilS))) (opM catO (consM (rdM 2) (consM (chM (opS mulO (consS (vS 3) (consS (vS 4) nilS))) (opM repO (consM (rdM 3) (consM (rdM 4) nilM)))) nilM)))) (nilM)))))) (
  ifS (stT (opS neO (consS (vS 5) (consS (cS k_RESTING) nilS)))) (
  retS (opM tupO (consM (rdM 4) (consM (rdM 5) (nilM))))) (
  nxS)))) (
  retS (cM .non))
def F_next_watch : List D → FR := runP 6 b_next_watch
def b_rest_hours : MS :=
  retS (stM (opS subO (consS (opS subO (consS (opS addO (consS (opS mulO (consS (vS 2) (consS (cS k_DAY_HOURS) nilS))) (consS (opS ixS (consS (cS k_WATCH_BEGINS) (consS (vS 1) nilS))) nilS))) (consS (opS ixS (consS (cS k_WATCH_BEGINS) (consS (vS 0) nilS))) nilS))) (consS (cS k_WATCH_HOURS) nilS))))
def F_rest_hours : List D → FR := runP 3 b_rest_hours
def b_least_rest : MS :=
  seqS (dropS (callM F_check_rota (consM (rdM 0) (nilM)))) (
  seqS (setS 1 (cM .non)) (
  seqS (forS (opI enumO (consM (rdM 0) (nilM))) (tgT [tgN 2, tgN 3]) (
  ifS (stT (opS neO (consS (vS 3) (consS (cS k_RESTING) nilS)))) (
  seqS (asgS (tgT [tgN 4, tgN 5]) (callM F_next_watch (consM (rdM 0) (consM (cM (.int 0)) (consM (rdM 2) (consM (cM (.int 1)) (nilM))))))) (
  seqS (setS 6 (callM F_rest_hours (consM (rdM 3) (consM (rdM 5) (consM (rdM 4) (nilM)))))) (
  setS 1 (ifM (stT (opS isO (consS (vS 1) (consS (cS .non) nilS)))) (rdM 6) (stM (opS minO (consS (vS 1) (consS (vS 6) (nilS))))))))) (
  nxS))) (
  retV 1)))
def F_least_rest : List D → FR := runP 7 b_least_rest
def b_check_crews : MS :=
  seqS (dropS (callM F_check_rota (consM (rdM 0) (nilM)))) (
  ifS (orT (notT (valT (callM F_is_sized (consM (rdM 1) (consM (cM (.int 1)) (consM (cM k_MOST_CREWS) (nilM))))))) (notT (valT (opM (liftO allO) (consM (compM (seqM (rdM 1)) (tgN 2) (yesM) (callM F_is_within (consM (rdM 2) (consM (cM (.int 0)) (consM (stM (opS subO (consS (opS lenO (consS (vS 0) (nilS))) (consS (cS (.int 1)) nilS)))) (nilM))))) [2] 0) (nilM)))))) (
  raiseS "NoCrews") (
  nxS))
def F_check_crews : List D → FR := runP 3 b_check_crews
def b_duty_lot : MS :=
  retS (opM tuplO (consM (compM (opI enumO (consM (rdM 1) (nilM))) (tgT [tgN 4, tgN 5]) (valT (bor (consM (callM F_had (consM (rdM 0) (consM (rdM 5) (consM (rdM 2) (nilM))))) nilM) (vS 3) eqO)) (rdM 4) [4, 5] 0) (nilM)))
def F_duty_lot : List D → FR := runP 6 b_duty_lot
def b_manned : MS :=
  seqS (dropS (callM F_check_crews (consM (rdM 0) (consM (rdM 1) (nilM))))) (
  seqS (setS 2 (stO (rgO1 mkL) (consS (opS lenO (consS (vS 0) (nilS))) nilS))) (
  seqS (setS 3 (opM lstO (nilM))) (
  seqS (forS (seqM (opM tupO (consM (cM k_DAY_WATCH) (consM (cM k_NIGHT_WATCH) (nilM))))) (tgN 4) (
  appS 3 (opM (liftO minO) (consM (compM (seqM (rdM 2)) (tgN 5) (yesM) (opM (liftO lenO) (consM (callM F_duty_lot (consM (rdM 0) (consM (rdM 1) (consM (rdM 5) (consM (rdM 4) (nilM)))))) (nilM))) [5] 0) (nilM))))) (
  retS (opM tupO (consM (chM (opS ixS (consS (vS 3) (consS (cS (.int 0)) nilS))) (opM ixO (consM (rdM 3) (consM (cM (.int 0)) nilM)))) (consM (chM (opS ixS (consS (vS 3) (consS (cS (.int 1)) nilS))) (opM ixO (consM (rdM 3) (consM (cM (.int 1)) nilM)))) (nilM))))))))
def F_manned : List D → FR := runP 6 b_manned
def b_check_day : MS :=
  ifS (notT (valT (callM F_is_within (consM (rdM 0) (consM (cM (.int 0)) (consM (cM k_MOST_DAY) (nilM))))))) (
  raiseS "NoDay") (
  nxS)
def F_check_day : List D → FR := runP 1 b_check_day
def b_on_duty : MS :=
  seqS (dropS (callM F_check_crews (consM (rdM 0) (consM (rdM 1) (nilM))))) (
  seqS (dropS (callM F_check_day (consM (rdM 2) (nilM)))) (
  seqS (ifS (notT (valT (callM F_is_within (consM (rdM 3) (consM (cM k_DAY_WATCH) (consM (cM k_NIGHT_WATCH) (nilM))))))) (
  raiseS "NoKind") (
  nxS)) (
  retS (callM F_duty_lot (consM (rdM 0) (consM (rdM 1) (consM (rdM 2) (consM (rdM 3) (nilM)))))))))
def F_on_duty : List D → FR := runP 4 b_on_duty
def b_check_crew : MS :=
  ifS (notT (valT (callM F_is_within (consM (rdM 1) (consM (cM (.int 0)) (consM (stM (opS subO (consS (opS lenO (consS (vS 0) (nilS))) (consS (cS (.int 1)) nilS)))) (nilM))))))) (
  raiseS "NoCrew") (
  nxS)
def F_check_crew : List D → FR := runP 2 b_check_crew
def b_watch_at : MS :=
  seqS (dropS (callM F_check_crews (consM (rdM 0) (consM (rdM 1) (nilM))))) (
  seqS (dropS (callM F_check_crew (consM (rdM 1) (consM (rdM 2) (nilM))))) (
  seqS (dropS (callM F_check_day (consM (rdM 3) (nilM)))) (
  retS (callM F_had (consM (rdM 0) (consM (chM (opS ixS (consS (vS 1) (consS (vS 2) nilS))) (opM ixO (consM (rdM 1) (consM (rdM 2) nilM)))) (consM (rdM 3) (nilM))))))))
def F_watch_at : List D → FR := runP 4 b_watch_at
def b__law_refused_right : MS :=
  seqS (setS 3 (callI F__law_any 0 (consM (opM lstO (consM (cM .non) (consM (opM tupO (nilM)) (consM (opM lstO (consM (cM (.int 1)) (consM (cM (.int 2)) (nilM)))) (consM (opM tupO (consM (cM (.int 3)) (nilM))) (consM (opM tupO (consM (stM (opS negO (consS (cS (.int 1)) nilS))) (nilM))) (consM (opM tupO (consM (cM (.bl true)) (nilM))) (consM (opM repO (consM (opM tupO (consM (cM (.int 0)) (nilM))) (consM (cM (.int 29)) nilM))) (consM (cM (.str "12")) (consM (cM (.int 7)) (consM (callI F__law_odd 0 (nilM)) (nilM)))))))))))) (nilM)))) (
  seqS (setS 7 (opM tupO (consM (cM (.int 1)) (consM (cM (.int 2)) (consM (cM (.int 0)) (nilM)))))) (
  seqS (setS 5 (callI F__law_any 0 (consM (opM lstO (consM (cM .non) (consM (opM tupO (nilM)) (consM (opM lstO (consM (cM (.int 0)) (nilM))) (consM (opM tupO (consM (cM (.int 3)) (nilM))) (consM (opM tupO (consM (stM (opS negO (consS (cS (.int 1)) nilS))) (nilM))) (consM (opM tupO (consM (cM (.bl true)) (nilM))) (consM (opM repO (consM (opM tupO (consM (cM (.int 0)) (nilM))) (consM (cM (.int 9)) nilM))) (consM (cM (.int 0)) (consM (callI F__law_odd 0 (nilM)) (nilM))))))))))) (nilM)))) (
  seqS (setS 4 (callI F__law_any 0 (consM (opM lstO (consM (cM .non) (consM (stM (opS negO (consS (cS (.int 1)) nilS))) (consM (cM (.int 2)) (consM (cM (.bl true)) (consM (cM (.str "0")) (consM (callI F__law_odd 0 (nilM)) (nilM)))))))) (nilM)))) (
  seqS (setS 6 (callI F__law_any 0 (consM (opM lstO (consM (cM .non) (consM (stM (opS negO (consS (cS (.int 1)) nilS))) (consM (cM (.int 1000001)) (consM (cM (.bl true)) (consM (cM (.str "0")) (consM (callI F__law_odd 0 (nilM)) (nilM)))))))) (nilM)))) (
  seqS (setS 8 (callI F__law_any 0 (consM (opM lstO (consM (cM .non) (consM (cM (.int 0)) (consM (cM (.int 3)) (consM (cM (.bl true)) (consM (cM (.str "1")) (consM (callI F__law_odd 0 (nilM)) (nilM)))))))) (nilM)))) (
  seqS (setS 1 (opM lstO (consM (lamM [3, 4, 5, 6] wf "let" (callM F_watch_at (consM (rdM 3) (consM (rdM 5) (consM (rdM 4) (consM (rdM 6) (nilM))))))) (nilM)))) (
  seqS (appS 1 (lamM [4, 5, 6, 7] wf "let" (callM F_watch_at (consM (rdM 7) (consM (rdM 5) (consM (rdM 4) (consM (rdM 6) (nilM)))))))) (
  seqS (appS 1 (lamM [4, 6, 7] wf "let" (callM F_watch_at (consM (rdM 7) (consM (opM tupO (consM (cM (.int 0)) (consM (cM (.int 1)) (nilM)))) (consM (rdM 4) (consM (rdM 6) (nilM)))))))) (
  seqS (appS 1 (lamM [6, 7] wf "let" (callM F_watch_at (consM (rdM 7) (consM (opM tupO (consM (cM (.int 0)) (consM (cM (.int 1)) (nilM)))) (consM (cM (.int 1)) (consM (rdM 6) (nilM)))))))) (
  seqS (appS 1 (lamM [3, 5, 6, 8] wf "let" (callM F_on_duty (consM (rdM 3) (consM (rdM 5) (consM (rdM 6) (consM (rdM 8) (nilM)))))))) (
  seqS (appS 1 (lamM [5, 6, 7, 8] wf "let" (callM F_on_duty (consM (rdM 7) (consM (rdM 5) (consM (rdM 6) (consM (rdM 8) (nilM)))))))) (
  seqS (appS 1 (lamM [6, 7, 8] wf "let" (callM F_on_duty (consM (rdM 7) (consM (opM tupO (consM (cM (.int 0)) (consM (cM (.int 1)) (nilM)))) (consM (rdM 6) (consM (rdM 8) (nilM)))))))) (
  seqS (appS 1 (lamM [7, 8] wf "let" (callM F_on_duty (consM (rdM 7) (consM (opM tupO (consM (cM (.int 0)) (consM (cM (.int 1)) (nilM)))) (consM (cM (.int 1)) (consM (rdM 8) (nilM)))))))) (
  seqS (appS 1 (lamM [3, 5] wf "let" (callM F_manned (consM (rdM 3) (consM (rdM 5) (nilM)))))) (
  seqS (appS 1 (lamM [5, 7] wf "let" (callM F_manned (consM (rdM 7) (consM (rdM 5) (nilM)))))) (
  seqS (appS 1 (lamM [3] wf "let" (callM F_least_rest (consM (rdM 3) (nilM))))) (
  seqS (setS 2 (opM lstO (consM (cM (.str "rota")) (consM (cM (.str "crews")) (consM (cM (.str "crew")) (consM (cM (.str "day")) (consM (cM (.str "rota")) (consM (cM (.str "crews")) (consM (cM (.str "day")) (consM (cM (.str "kind")) (consM (cM (.str "rota")) (consM (cM (.str "crews")) (consM (cM (.str "rota")) (nilM)))))))))))))) (
  retS (andM (stM (opS eqO (consS (vS 1) (consS (vS 2) nilS)))) (bor (consM (callM F_is_rota (consM (rdM 3) (nilM))) nilM) (cS (.bl false)) isO))))))))))))))))))))
def F__law_refused_right : D → List D → FI := runI 9 b__law_refused_right
def b__law_rota : MS :=
  seqS (setS 1 (opM ntplO (consM (compM (opI rng1O (consM (opM catO (consM (cM (.int 1)) (consM (callI F__law_draw 0 (consM (cM (.int 9)) (nilM))) nilM))) (nilM))) (tgN 3) (yesM) (callI F__law_any 0 (consM (opM lstO (consM (cM (.int 0)) (consM (cM (.int 0)) (consM (cM (.int 1)) (consM (cM (.int 2)) (nilM)))))) (nilM))) [3] 0) (nilM)))) (
  seqS (setS 2 (opM tuplO (consM (compM (opI rng1O (consM (opM catO (consM (cM (.int 1)) (consM (callI F__law_draw 0 (consM (cM (.int 5)) (nilM))) nilM))) (nilM))) (tgN 4) (yesM) (callI F__law_draw 0 (consM (stM (opS lenO (consS (ntS (vS 1)) (nilS)))) (nilM))) [4] 0) (nilM)))) (
  retS (opM tupO (consM (rdM 1) (consM (rdM 2) (nilM))))))
def F__law_rota : D → List D → FI := runI 5 b__law_rota
def b_law : MS :=
  seqS (setS 1 (callM F__law_hand (consM (rdM 0) (nilM)))) (
  seqS (asgS (tgT [tgN 2, tgN 3]) (opM tupO (consM (opM tupO (consM (cM (.int 1)) (consM (cM (.int 1)) (consM (cM (.int 2)) (consM (cM (.int 2)) (consM (cM (.int 0)) (consM (cM (.int 0)) (consM (cM (.int 0)) (consM (cM (.int 0)) (nilM)))))))))) (consM (opM tupO (consM (cM (.int 0)) (consM (cM (.int 2)) (consM (cM (.int 4)) (consM (cM (.int 6)) (nilM)))))) (nilM))))) (
  seqS (ifS (orT (valT (opM (liftO neO) (consM (callM F_manned (consM (rdM 2) (consM (rdM 3) (nilM)))) (consM (opM tupO (consM (cM (.int 1)) (consM (cM (.int 1)) (nilM)))) nilM)))) (orT (valT (bor (consM (callM F_least_rest (consM (rdM 2) (nilM))) nilM) (cS (.int 12)) neO)) (valT (opM (liftO neO) (consM (callM F_on_duty (consM (rdM 2) (consM (rdM 3) (consM (cM (.int 1)) (consM (cM (.int 2)) (nilM)))))) (consM (opM tupO (consM (cM (.int 1)) (nilM))) nilM)))))) (
  retS (cM (.bl false))) (
  nxS)) (
  seqS (ifS (orT (valT (bor (consM (callM F_least_rest (consM (opM tupO (consM (cM (.int 0)) (nilM))) (nilM))) nilM) (cS .non) notO)) (orT (valT (bor (consM (callM F_least_rest (consM (opM tupO (consM (cM (.int 2)) (consM (cM (.int 1)) (nilM)))) (nilM))) nilM) (cS (.int 0)) neO)) (valT (bor (consM (callM F_least_rest (consM (opM tupO (consM (cM (.int 1)) (nilM))) (nilM))) nilM) (cS (.int 12)) neO)))) (
  retS (cM (.bl false))) (
  nxS)) (
  seqS (ifS (valT (bor (consM (callM F_watch_at (consM (rdM 2) (consM (rdM 3) (consM (cM (.int 3)) (consM (cM (.int 2)) (nilM)))))) nilM) (cS (.int 1)) neO)) (
  retS (cM (.bl false))) (
  nxS)) (
  seqS (forS (opI rng1O (consM (cM (.int 6)) (nilM))) (tgN 4) (
  seqS (asgS (tgT [tgN 5, tgN 6]) (callI F__law_rota 1 (nilM))) (
  seqS (asgS (tgT [tgN 7, tgN 8]) (opM tupO (consM (callI F__law_draw 1 (consM (stM (opS lenO (consS (vS 6) (nilS)))) (nilM))) (consM (callI F__law_draw 1 (consM (callI F__law_any 1 (consM (opM lstO (consM (cM (.int 20)) (consM (cM (.int 1000001)) (nilM)))) (nilM))) (nilM))) (nilM))))) (
  seqS (ifS (valT (opM (liftO neO) (consM (callM F_watch_at (consM (ntM (rdM 5)) (consM (rdM 6) (consM (rdM 7) (consM (rdM 8) (nilM)))))) (consM (callM F__law_at (consM (ntM (rdM 5)) (consM (rdM 6) (consM (rdM 7) (consM (rdM 8) (nilM)))))) nilM)))) (
  retS (cM (.bl false))) (
  nxS)) (
  seqS (ifS (valT (opM (liftO neO) (consM (callM F_least_rest (consM (ntM (rdM 5)) (nilM))) (consM (callM F__law_least (consM (ntM (rdM 5)) (nilM))) nilM)))) (
  retS (cM (.bl false))) (
  nxS)) (
  seqS (forS (seqM (opM tupO (consM (cM (.int 1)) (consM (cM (.int 2)) (nilM))))) (tgN 9) (
  seqS (setS 10 (compM (opI rng1O (consM (stM (opS lenO (consS (vS 6) (nilS)))) (nilM))) (tgN 15) (valT (bor (consM (callM F__law_at (consM (ntM (rdM 5)) (consM (rdM 6) (consM (rdM 15) (consM (rdM 8) (nilM)))))) nilM) (vS 9) eqO)) (rdM 15) [15] 0)) (
  ifS (valT (opM (liftO neO) (consM (callM F_on_duty (consM (ntM (rdM 5)) (consM (rdM 6) (consM (rdM 8) (consM (rdM 9) (nilM)))))) (consM (opM tuplO (consM (rdM 10) (nilM))) nilM)))) (
  retS (cM (.bl false))) (
  nxS)))) (
  seqS (setS 11 (opM lstO (nilM))) (
  seqS (forS (seqM (opM tupO (consM (cM (.int 1)) (consM (cM (.int 2)) (nilM))))) (tgN 9) (
  seqS (setS 12 (opM lstO (nilM))) (
  seqS (forS (opI rng1O (consM (stM (opS lenO (consS (ntS (vS 5)) (nilS)))) (nilM))) (tgN 13) (
  appS 12 (opM (liftO lenO) (consM (compM (opI rng1O (consM (stM (opS lenO (consS (vS 6) (nilS)))) (nilM))) (tgN 15) (valT (bor (consM (callM F__law_at (consM (ntM (rdM 5)) (consM (rdM 6) (consM (rdM 15) (consM (rdM 13) (nilM)))))) nilM) (vS 9) eqO)) (cM (.int 1)) [15] 0) (nilM))))) (
  appS 11 (stM (opS minO (consS (vS 12) (nilS)))))))) (
  seqS (setS 14 (callM F_manned (consM (ntM (rdM 5)) (consM (rdM 6) (nilM))))) (
  seqS (ifS (orT (valT (opM (liftO neO) (consM (rdM 14) (consM (opM tuplO (consM (rdM 11) (nilM))) nilM)))) (valT (bor (consM (callM F_is_rota (consM (ntM (rdM 5)) (nilM))) nilM) (cS (.bl true)) notO))) (
  retS (cM (.bl false))) (
  nxS)) (
  seqS (forS (seqM (opM tupO (consM (cM (.int 1)) (consM (cM (.int 2)) (nilM))))) (tgN 9) (
  ifS (valT (opM (liftO gtO) (consM (chM (opS mulO (consS (opS ixS (consS (vS 14) (consS (opS subO (consS (vS 9) (consS (cS (.int 1)) nilS))) nilS))) (consS (opS lenO (consS (ntS (vS 5)) (nilS))) nilS))) (opM repO (consM (chM (opS ixS (consS (vS 14) (consS (opS subO (consS (vS 9) (consS (cS (.int 1)) nilS))) nilS))) (opM ixO (consM (rdM 14) (consM (stM (opS subO (consS (vS 9) (consS (cS (.int 1)) nilS)))) nilM)))) (consM (stM (opS lenO (consS (ntS (vS 5)) (nilS)))) nilM)))) (consM (opM repO (consM (methM isNtp ntcntO (rdM 5) (rdM 9)) (consM (stM (opS lenO (consS (vS 6) (nilS)))) nilM))) nilM)))) (
  retS (cM (.bl false))) (
  nxS))) (
  seqS (ifS (orT (valT (bor (consM (callM F_manned (consM (opM catO (consM (slM (ntM (rdM 5)) (obM (cS (.int 1))) (nobM)) (consM (slM (ntM (rdM 5)) (nobM) (obM (cS (.int 1)))) nilM))) (consM (rdM 6) (nilM)))) nilM) (vS 14) neO)) (valT (opM (liftO neO) (consM (callM F_least_rest (consM (opM catO (consM (slM (ntM (rdM 5)) (obM (cS (.int 1))) (nobM)) (consM (slM (ntM (rdM 5)) (nobM) (obM (cS (.int 1)))) nilM))) (nilM))) (consM (callM F_least_rest (consM (ntM (rdM 5)) (nilM))) nilM))))) (
  retS (cM (.bl false))) (
  nxS)) (
  ifS (notT (valT (callI F__law_refused_right 1 (nilM)))) (
  retS (cM (.bl false))) (
  nxS)))))))))))))) (
  retS (cM (.bl true))))))))
def F_law : List D → FR := runP 16 b_law
end Em
set_option Elab.async false
set_option linter.all false
set_option maxRecDepth 100000
set_option maxHeartbeats 4000000
namespace Em
open PySem L2 PyProof.Rows
abbrev s__law_draw : Stmt := topS 38
abbrev s__law_any : Stmt := topS 39
abbrev s__law_at : Stmt := topS 42
abbrev s__law_hand : Stmt := topS 37
abbrev s__law_hours : Stmt := topS 43
abbrev s__law_next : Stmt := topS 44
abbrev s__law_least : Stmt := topS 46
abbrev s__law_odd : Stmt := topS 40
abbrev s_is_sized : Stmt := topS 3
abbrev s_is_integer : Stmt := topS 1
abbrev s_is_within : Stmt := topS 2
abbrev s_is_rota : Stmt := topS 23
abbrev s_check_rota : Stmt := topS 24
abbrev s_had : Stmt := topS 28
abbrev s_next_watch : Stmt := topS 34
abbrev s_rest_hours : Stmt := topS 33
abbrev s_least_rest : Stmt := topS 35
abbrev s_check_crews : Stmt := topS 25
abbrev s_duty_lot : Stmt := topS 30
abbrev s_manned : Stmt := topS 32
abbrev s_check_day : Stmt := topS 27
abbrev s_on_duty : Stmt := topS 31
abbrev s_check_crew : Stmt := topS 26
abbrev s_watch_at : Stmt := topS 29
abbrev s__law_refused_right : Stmt := topS 47
abbrev s__law_rota : Stmt := topS 41
abbrev s_law : Stmt := topS 48
abbrev s__law_word : Stmt := topS 45
structure Facts (P : Program) (w : World) (K : PySem.W.Frag) (mg : Str → Option Value) (base : Heap) (T : List (Addr × Str)) : Prop where
  b_abs : mg "abs" = none
  b_all : mg "all" = none
  b_bool : mg "bool" = none
  b_enumerate : mg "enumerate" = none
  b_int : mg "int" = none
  b_isinstance : mg "isinstance" = none
  b_len : mg "len" = none
  b_list : mg "list" = none
  b_min : mg "min" = none
  b_range : mg "range" = none
  b_tuple : mg "tuple" = none
  c_NoCrew : ∃ C, Ec K mg "NoCrew" C
  c_NoCrews : ∃ C, Ec K mg "NoCrews" C
  c_NoDay : ∃ C, Ec K mg "NoDay" C
  c_NoKind : ∃ C, Ec K mg "NoKind" C
  c_NoRota : ∃ C, Ec K mg "NoRota" C
  k_DAY_HOURS : Gv K mg "DAY_HOURS" k_DAY_HOURS
  k_DAY_WATCH : Gv K mg "DAY_WATCH" k_DAY_WATCH
  k_MOST_CREWS : Gv K mg "MOST_CREWS" k_MOST_CREWS
  k_MOST_DAY : Gv K mg "MOST_DAY" k_MOST_DAY
  k_MOST_ROTA_DAYS : Gv K mg "MOST_ROTA_DAYS" k_MOST_ROTA_DAYS
  k_NIGHT_WATCH : Gv K mg "NIGHT_WATCH" k_NIGHT_WATCH
  k_RESTING : Gv K mg "RESTING" k_RESTING
  k_WATCH_BEGINS : Gv K mg "WATCH_BEGINS" k_WATCH_BEGINS
  k_WATCH_HOURS : Gv K mg "WATCH_HOURS" k_WATCH_HOURS
  d__law_draw : ∃ f fd, mg "_law_draw" = some (.ref f) ∧ Fun K "_law_draw" "_law_draw" s__law_draw f fd ∧ L2.Binds K fd ["hand", "bound"] []
  d__law_any : ∃ f fd, mg "_law_any" = some (.ref f) ∧ Fun K "_law_any" "_law_any" s__law_any f fd ∧ L2.Binds K fd ["hand", "things"] []
  d__law_at : ∃ f fd, mg "_law_at" = some (.ref f) ∧ Fun K "_law_at" "_law_at" s__law_at f fd ∧ L2.Binds K fd ["rota", "crews", "crew", "day"] []
  d__law_hand : ∃ f fd, mg "_law_hand" = some (.ref f) ∧ Fun K "_law_hand" "_law_hand" s__law_hand f fd ∧ L2.Binds K fd ["script"] []
  d__law_hours : ∃ f fd, mg "_law_hours" = some (.ref f) ∧ Fun K "_law_hours" "_law_hours" s__law_hours f fd ∧ L2.Binds K fd ["day", "kind"] []
  d__law_next : ∃ f fd, mg "_law_next" = some (.ref f) ∧ Fun K "_law_next" "_law_next" s__law_next f fd ∧ L2.Binds K fd ["rota", "crews", "crew", "day"] []
  d__law_least : ∃ f fd, mg "_law_least" = some (.ref f) ∧ Fun K "_law_least" "_law_least" s__law_least f fd ∧ L2.Binds K fd ["rota"] []
  d__law_odd : ∃ f fd, mg "_law_odd" = some (.ref f) ∧ Fun K "_law_odd" "_law_odd" s__law_odd f fd ∧ L2.Binds K fd ["hand"] []
  d_is_sized : ∃ f fd, mg "is_sized" = some (.ref f) ∧ Fun K "is_sized" "is_sized" s_is_sized f fd ∧ L2.Binds K fd ["thing", "low", "high"] []
  d_is_integer : ∃ f fd, mg "is_integer" = some (.ref f) ∧ Fun K "is_integer" "is_integer" s_is_integer f fd ∧ L2.Binds K fd ["thing"] []
  d_is_within : ∃ f fd, mg "is_within" = some (.ref f) ∧ Fun K "is_within" "is_within" s_is_within f fd ∧ L2.Binds K fd ["thing", "low", "high"] []
  d_is_rota : ∃ f fd, mg "is_rota" = some (.ref f) ∧ Fun K "is_rota" "is_rota" s_is_rota f fd ∧ L2.Binds K fd ["thing"] []
  d_check_rota : ∃ f fd, mg "check_rota" = some (.ref f) ∧ Fun K "check_rota" "check_rota" s_check_rota f fd ∧ L2.Binds K fd ["rota"] []
  d_had : ∃ f fd, mg "had" = some (.ref f) ∧ Fun K "had" "had" s_had f fd ∧ L2.Binds K fd ["rota", "crew", "day"] []
  d_next_watch : ∃ f fd, mg "next_watch" = some (.ref f) ∧ Fun K "next_watch" "next_watch" s_next_watch f fd ∧ L2.Binds K fd ["rota", "crew", "day", "step"] []
  d_rest_hours : ∃ f fd, mg "rest_hours" = some (.ref f) ∧ Fun K "rest_hours" "rest_hours" s_rest_hours f fd ∧ L2.Binds K fd ["first", "later", "days"] []
  d_least_rest : ∃ f fd, mg "least_rest" = some (.ref f) ∧ Fun K "least_rest" "least_rest" s_least_rest f fd ∧ L2.Binds K fd ["rota"] []
  d_check_crews : ∃ f fd, mg "check_crews" = some (.ref f) ∧ Fun K "check_crews" "check_crews" s_check_crews f fd ∧ L2.Binds K fd ["rota", "crews"] []
  d_duty_lot : ∃ f fd, mg "duty_lot" = some (.ref f) ∧ Fun K "duty_lot" "duty_lot" s_duty_lot f fd ∧ L2.Binds K fd ["rota", "crews", "day", "kind"] []
  d_manned : ∃ f fd, mg "manned" = some (.ref f) ∧ Fun K "manned" "manned" s_manned f fd ∧ L2.Binds K fd ["rota", "crews"] []
  d_check_day : ∃ f fd, mg "check_day" = some (.ref f) ∧ Fun K "check_day" "check_day" s_check_day f fd ∧ L2.Binds K fd ["day"] []
  d_on_duty : ∃ f fd, mg "on_duty" = some (.ref f) ∧ Fun K "on_duty" "on_duty" s_on_duty f fd ∧ L2.Binds K fd ["rota", "crews", "day", "kind"] []
  d_check_crew : ∃ f fd, mg "check_crew" = some (.ref f) ∧ Fun K "check_crew" "check_crew" s_check_crew f fd ∧ L2.Binds K fd ["crews", "crew"] []
  d_watch_at : ∃ f fd, mg "watch_at" = some (.ref f) ∧ Fun K "watch_at" "watch_at" s_watch_at f fd ∧ L2.Binds K fd ["rota", "crews", "crew", "day"] []
  d__law_rota : ∃ f fd, mg "_law_rota" = some (.ref f) ∧ Fun K "_law_rota" "_law_rota" s__law_rota f fd ∧ L2.Binds K fd ["hand"] []
  wd : Wd P w K mg base T "_law_word" wf "let"
section
variable {P : Program} {w : World} {K : PySem.W.Frag} {mg : Str → Option Value} {base : Heap} {T : List (Addr × Str)}

abbrev N__law_draw : List Str := ["hand", "bound", "cell", "digit", "number"]
theorem sc__law_draw : FnScope N__law_draw ["hand", "bound"] (defScope s__law_draw) := ⟨rfl, rfl, rfl, by decide +kernel, rfl, by decide +kernel, by decide +kernel⟩
theorem ok__law_draw (A : Facts P w K mg base T)  : Fn P w K mg base 1 "_law_draw" (spI K T mg 1 F__law_draw) := by
  obtain ⟨f, fd, hm, F, hb⟩ := A.d__law_draw
  exact fn_I (k := 0) F sc__law_draw rfl hm hb fun cdv A0 outer s H E W hr tk => (ss_cons (ss_if (dt_w (dw_and (dt_cmpS (bv_eq hr.units) (ds_ix (ds_var 0) ds_int) ds_int) (dw_and1 (dt_cmpS (bv_lt hr.units0) (ds_ix (ds_var 0) ds_int) (ds_callB (cs_len) rfl A.b_len (by decide +kernel) (dsa_cons (ds_ix (ds_var 0) ds_int) dsa_nil)))))) (ss_cons (ss_set 2 sc__law_draw.nd (de_ch (ds_ix (ds_ix (ds_var 0) ds_int) (ds_ix (ds_var 0) ds_int)) (de_ix (de_ch (ds_ix (ds_var 0) ds_int) (de_ix (de_var 0) de_int)) (de_ch (ds_ix (ds_var 0) ds_int) (de_ix (de_var 0) de_int)))))
      (ss_cons (ss_setix 0 (de_ch (ds_bin bv_add (ds_ix (ds_var 0) ds_int) ds_int) (de_bin bd_cat (de_ch (ds_ix (ds_var 0) ds_int) (de_ix (de_var 0) de_int)) de_int)) ds_int)
      (ss_cons (ss_setix 0 (de_still (ds_bin bv_mod (ds_callT (cs_int) rfl A.b_int (by decide +kernel) (dsa_cons (ds_bin bv_add (ds_bin bv_add (ds_bin bv_mul (ds_ix (ds_var 0) ds_int) ds_int) (ds_var 2)) ds_int) dsa_nil)) ds_int)) ds_int)
      (ss_one (ss_if (dt_cmpS bv_ge (ds_var 2) (ds_bin bv_pow ds_int ds_int)) (ss_one (ss_setix 0 (de_var 2) ds_int)) ss_nil))))) ss_nil)
      (ss_cons (ss_if (dt_cmpS bv_gt (ds_ix (ds_var 0) ds_int) ds_int) (ss_cons (ss_set 3 sc__law_draw.nd (de_still (ds_bin bv_mod (ds_callT (cs_int) rfl A.b_int (by decide +kernel) (dsa_cons (ds_ix (ds_var 0) ds_int) dsa_nil)) (ds_var 1))))
      (ss_cons (ss_setix 0 (de_still (ds_bin bv_fdiv (ds_ix (ds_var 0) ds_int) (ds_var 1))) ds_int)
      (ss_one (ss_retV 3)))) ss_nil)
      (ss_cons (ss_setix 0 (de_ch (ds_bin bv_add (ds_ix (ds_var 0) ds_int) ds_int) (de_bin bd_cat (de_ch (ds_ix (ds_var 0) ds_int) (de_ix (de_var 0) de_int)) de_int)) ds_int)
      (ss_cons (ss_set 4 sc__law_draw.nd (de_still (ds_bin bv_mod (ds_callT (cs_int) rfl A.b_int (by decide +kernel) (dsa_cons (ds_bin bv_mul (ds_callT (cs_int) rfl A.b_int (by decide +kernel) (dsa_cons (ds_bin bv_add (ds_ix (ds_var 0) ds_int) (ds_bin bv_mul ds_int (ds_ix (ds_var 0) ds_int))) dsa_nil)) ds_int) dsa_nil)) ds_int)))
      (ss_cons (ss_set 4 sc__law_draw.nd (de_still (ds_bin bv_mod (ds_callT (cs_int) rfl A.b_int (by decide +kernel) (dsa_cons (ds_bin bv_mul (ds_var 4) (ds_bin bv_add (ds_bin bv_fdiv (ds_var 4) ds_int) ds_int)) dsa_nil)) ds_int)))
      (ss_cons (ss_set 4 sc__law_draw.nd (de_still (ds_bin bv_mod (ds_callT (cs_int) rfl A.b_int (by decide +kernel) (dsa_cons (ds_bin bv_mul (ds_var 4) (ds_bin bv_add (ds_bin bv_fdiv (ds_var 4) ds_int) ds_int)) dsa_nil)) ds_int)))
      (ss_one (ss_ret (de_still (ds_bin bv_mod (ds_callT (cs_int) rfl A.b_int (by decide +kernel) (dsa_cons (ds_bin bv_fdiv (ds_var 4) ds_int) dsa_nil)) (ds_var 1)))))))))))
abbrev N__law_any : List Str := ["hand", "things"]
theorem sc__law_any : FnScope N__law_any ["hand", "things"] (defScope s__law_any) := ⟨rfl, rfl, rfl, by decide +kernel, rfl, by decide +kernel, by decide +kernel⟩
theorem ok__law_any (A : Facts P w K mg base T) (G__law_draw : Fn P w K mg base 1 "_law_draw" (spI K T mg 1 F__law_draw)) : Fn P w K mg base 2 "_law_any" (spI K T mg 1 F__law_any) := by
  obtain ⟨f, fd, hm, F, hb⟩ := A.d__law_any
  exact fn_I (k := 1) F sc__law_any rfl hm hb fun cdv A0 outer s H E W hr tk => (ss_one (ss_ret (de_ix (de_var 1) (de_callI (i := 0) (n := 1) (G__law_draw) tk (hr.mono (by decide)) rfl (da_cons (de_still (ds_callB (cs_len) rfl A.b_len (by decide +kernel) (dsa_cons (ds_var 1) dsa_nil))) da_nil) ((lenM_cons lenM_nil).h)))))
abbrev N__law_at : List Str := ["rota", "crews", "crew", "day"]
theorem sc__law_at : FnScope N__law_at ["rota", "crews", "crew", "day"] (defScope s__law_at) := ⟨rfl, rfl, rfl, by decide +kernel, rfl, by decide +kernel, by decide +kernel⟩
theorem ok__law_at (A : Facts P w K mg base T)  : Fn P w K mg base 1 "_law_at" (spP K T mg 4 F__law_at) := by
  obtain ⟨f, fd, hm, F, hb⟩ := A.d__law_at
  exact fn_P (k := 0) F sc__law_at rfl hm hb fun cdv A0 outer s H E W hr tk => (ss_one (ss_ret (de_ch (ds_ix (ds_var 0) (ds_bin bv_mod (ds_callT (cs_int) rfl A.b_int (by decide +kernel) (dsa_cons (ds_bin bv_add (ds_ix (ds_var 1) (ds_var 2)) (ds_var 3)) dsa_nil)) (ds_callB (cs_len) rfl A.b_len (by decide +kernel) (dsa_cons (ds_var 0) dsa_nil)))) (de_ix (de_var 0) (de_still (ds_bin bv_mod (ds_callT (cs_int) rfl A.b_int (by decide +kernel) (dsa_cons (ds_bin bv_add (ds_ix (ds_var 1) (ds_var 2)) (ds_var 3)) dsa_nil)) (ds_callB (cs_len) rfl A.b_len (by decide +kernel) (dsa_cons (ds_var 0) dsa_nil))))))))
abbrev N__law_hand : List Str := ["script", "cells", "cell"]
theorem sc__law_hand : FnScope N__law_hand ["script"] (defScope s__law_hand) := ⟨rfl, rfl, rfl, by decide +kernel, rfl, by decide +kernel, by decide +kernel⟩
theorem ok__law_hand (A : Facts P w K mg base T)  : Fn P w K mg base 1 "_law_hand" (spP K T mg 1 F__law_hand) := by
  obtain ⟨f, fd, hm, F, hb⟩ := A.d__law_hand
  exact fn_P (k := 0) F sc__law_hand rfl hm hb fun cdv A0 outer s H E W hr tk => (ss_cons (ss_setLc (own := [("cell", 2)]) 1 0 rfl sc__law_hand.nd (di_seq (de_sl (de_var 0) do_none (do_some ds_int))) (show BlkOk N__law_hand (defScope s__law_hand) _ [("cell", 2)] from ⟨rfl, by decide +kernel, by decide +kernel, by decide +kernel, by decide +kernel⟩) (fun _ _ _ _ _ => (dc_name 2 sc__law_hand.nd)) (fun _ _ _ _ _ => dts_nil) (fun _ _ _ _ _ => (de_still (ds_callB (cs_abs) rfl A.b_abs (by decide +kernel) (dsa_cons (ds_callT (cs_int) rfl A.b_int (by decide +kernel) (dsa_cons (ds_var 2) dsa_nil)) dsa_nil)))))
      (ss_one (ss_ret (de_lst (da_cons (de_var 1) (da_cons de_int (da_cons de_int (da_cons (de_ch (ds_bin bv_add ds_int (ds_callB (cs_len) rfl A.b_len (by decide +kernel) (dsa_cons (ds_var 1) dsa_nil))) (de_bin bd_cat de_int (de_still (ds_callB (cs_len) rfl A.b_len (by decide +kernel) (dsa_cons (ds_var 1) dsa_nil))))) (da_cons de_int da_nil)))))))))
abbrev N__law_hours : List Str := ["day", "kind", "begin"]
theorem sc__law_hours : FnScope N__law_hours ["day", "kind"] (defScope s__law_hours) := ⟨rfl, rfl, rfl, by decide +kernel, rfl, by decide +kernel, by decide +kernel⟩
theorem ok__law_hours (A : Facts P w K mg base T)  : Fn P w K mg base 1 "_law_hours" (spP K T mg 2 F__law_hours) := by
  obtain ⟨f, fd, hm, F, hb⟩ := A.d__law_hours
  exact fn_P (k := 0) F sc__law_hours rfl hm hb fun cdv A0 outer s H E W hr tk => (ss_cons (ss_set 2 sc__law_hours.nd (de_bin bd_cat (de_ch (ds_bin bv_mul ds_int (ds_var 0)) (de_bin bd_rep de_int (de_var 0))) (de_if (dt_cmpS (bv_eq hr.units) (ds_var 1) ds_int) de_int de_int)))
      (ss_one (ss_ret (de_tup (da_cons (de_var 2) (da_cons (de_ch (ds_bin bv_add (ds_var 2) ds_int) (de_bin bd_cat (de_var 2) de_int)) da_nil))))))
abbrev N__law_next : List Str := ["rota", "crews", "crew", "day", "on", "kind"]
theorem sc__law_next : FnScope N__law_next ["rota", "crews", "crew", "day"] (defScope s__law_next) := ⟨rfl, rfl, rfl, by decide +kernel, rfl, by decide +kernel, by decide +kernel⟩
theorem ok__law_next (A : Facts P w K mg base T) (G__law_at : Fn P w K mg base 1 "_law_at" (spP K T mg 4 F__law_at)) (G__law_hours : Fn P w K mg base 1 "_law_hours" (spP K T mg 2 F__law_hours)) : Fn P w K mg base 2 "_law_next" (spP K T mg 4 F__law_next) := by
  obtain ⟨f, fd, hm, F, hb⟩ := A.d__law_next
  exact fn_P (k := 1) F sc__law_next rfl hm hb fun cdv A0 outer s H E W hr tk => (ss_cons (ss_for (passes_of rfl) rfl (di_range2 rfl A.b_range (da_cons de_int (da_cons (de_ch (ds_bin bv_add (ds_callB (cs_len) rfl A.b_len (by decide +kernel) (dsa_cons (ds_var 0) dsa_nil)) ds_int) (de_bin bd_cat (de_still (ds_callB (cs_len) rfl A.b_len (by decide +kernel) (dsa_cons (ds_var 0) dsa_nil))) de_int)) da_nil))) (dg_name 4 sc__law_next.nd) (ss_cons (ss_set 5 sc__law_next.nd (de_call (n := 4) (G__law_at) tk (hr.mono (by decide)) rfl (da_cons (de_var 0) (da_cons (de_var 1) (da_cons (de_var 2) (da_cons (de_ch (ds_bin bv_add (ds_var 3) (ds_var 4)) (de_bin bd_cat (de_var 3) (de_var 4))) da_nil)))) ((lenM_cons (lenM_cons (lenM_cons (lenM_cons lenM_nil)))).h)))
      (ss_one (ss_if (dt_cmpS bv_gt (ds_var 5) ds_int) (ss_one (ss_ret (de_ix (de_call (n := 2) (G__law_hours) tk (hr.mono (by decide)) rfl (da_cons (de_ch (ds_bin bv_add (ds_var 3) (ds_var 4)) (de_bin bd_cat (de_var 3) (de_var 4))) (da_cons (de_var 5) da_nil)) ((lenM_cons (lenM_cons lenM_nil)).h)) de_int))) ss_nil))))
      (ss_one (ss_ret de_non)))
abbrev N__law_least : List Str := ["rota", "best", "day", "kind", "rest"]
theorem sc__law_least : FnScope N__law_least ["rota"] (defScope s__law_least) := ⟨rfl, rfl, rfl, by decide +kernel, rfl, by decide +kernel, by decide +kernel⟩
theorem ok__law_least (A : Facts P w K mg base T) (G__law_hours : Fn P w K mg base 1 "_law_hours" (spP K T mg 2 F__law_hours)) (G__law_next : Fn P w K mg base 2 "_law_next" (spP K T mg 4 F__law_next)) : Fn P w K mg base 3 "_law_least" (spP K T mg 1 F__law_least) := by
  obtain ⟨f, fd, hm, F, hb⟩ := A.d__law_least
  exact fn_P (k := 2) F sc__law_least rfl hm hb fun cdv A0 outer s H E W hr tk => (ss_cons (ss_set 1 sc__law_least.nd de_non)
      (ss_cons (ss_for (passes_of rfl) rfl (di_enum rfl A.b_enumerate (da_cons (de_var 0) da_nil)) (dg_tup rfl (dgs_cons (dg_name 2 sc__law_least.nd) (dgs_cons (dg_name 3 sc__law_least.nd) dgs_nil))) (ss_one (ss_if (dt_cmpS bv_gt (ds_var 3) ds_int) (ss_cons (ss_set 4 sc__law_least.nd (de_bin bv_sub.d (de_call (n := 4) (G__law_next) tk (hr.mono (by decide)) rfl (da_cons (de_var 0) (da_cons (de_tup (da_cons de_int da_nil)) (da_cons de_int (da_cons (de_var 2) da_nil)))) ((lenM_cons (lenM_cons (lenM_cons (lenM_cons lenM_nil)))).h)) (de_ix (de_call (n := 2) (G__law_hours) tk (hr.mono (by decide)) rfl (da_cons (de_var 2) (da_cons (de_var 3) da_nil)) ((lenM_cons (lenM_cons lenM_nil)).h)) de_int)))
      (ss_one (ss_set 1 sc__law_least.nd (de_if (dt_cmpS bv_is (ds_var 1) ds_non) (de_var 4) (de_still (ds_callB (cs_min rfl) rfl A.b_min (by decide +kernel) (dsa_cons (ds_var 1) (dsa_cons (ds_var 4) dsa_nil)))))))) ss_nil)))
      (ss_one (ss_retV 1))))
abbrev N__law_odd : List Str := ["hand", "thing", "lap"]
theorem sc__law_odd : FnScope N__law_odd ["hand"] (defScope s__law_odd) := ⟨rfl, rfl, rfl, by decide +kernel, rfl, by decide +kernel, by decide +kernel⟩
theorem ok__law_odd (A : Facts P w K mg base T) (G__law_any : Fn P w K mg base 2 "_law_any" (spI K T mg 1 F__law_any)) : Fn P w K mg base 3 "_law_odd" (spI K T mg 0 F__law_odd) := by
  obtain ⟨f, fd, hm, F, hb⟩ := A.d__law_odd
  exact fn_I (k := 2) F sc__law_odd rfl hm hb fun cdv A0 outer s H E W hr tk => (ss_cons (ss_set 1 sc__law_odd.nd (de_callI (i := 0) (n := 1) (G__law_any) tk (hr.mono (by decide)) rfl (da_cons (de_lst (da_cons de_non (da_cons de_str (da_cons de_dct0 da_nil)))) da_nil) ((lenM_cons lenM_nil).h)))
      (ss_cons (ss_for (passes_of rfl) rfl (di_range1 rfl A.b_range (da_cons (de_callI (i := 0) (n := 1) (G__law_any) tk (hr.mono (by decide)) rfl (da_cons (de_lst (da_cons de_int (da_cons de_int (da_cons de_int (da_cons de_int da_nil))))) da_nil) ((lenM_cons lenM_nil).h)) da_nil)) (dg_name 2 sc__law_odd.nd) (ss_one (ss_set 1 sc__law_odd.nd (de_callI (i := 0) (n := 1) (G__law_any) tk (hr.mono (by decide)) rfl (da_cons (de_lst (da_cons (de_tup (da_cons (de_var 1) da_nil)) (da_cons (de_lst (da_cons (de_var 1) da_nil)) da_nil))) da_nil) ((lenM_cons lenM_nil).h)))))
      (ss_one (ss_retV 1))))
abbrev N_is_sized : List Str := ["thing", "low", "high"]
theorem sc_is_sized : FnScope N_is_sized ["thing", "low", "high"] (defScope s_is_sized) := ⟨rfl, rfl, rfl, by decide +kernel, rfl, by decide +kernel, by decide +kernel⟩
theorem ok_is_sized (A : Facts P w K mg base T)  : Fn P w K mg base 1 "is_sized" (spP K T mg 3 F_is_sized) := by
  obtain ⟨f, fd, hm, F, hb⟩ := A.d_is_sized
  exact fn_P (k := 0) F sc_is_sized rfl hm hb fun cdv A0 outer s H E W hr tk => (ss_one (ss_ret (de_and (de_still (ds_isi (ds_var 0) rfl A.b_isinstance rfl A.b_tuple (by decide +kernel))) (de_one (de_still (ds_ch bv_le bv_le (ds_var 1) (ds_callB (cs_len) rfl A.b_len (by decide +kernel) (dsa_cons (ds_var 0) dsa_nil)) (ds_var 2)))))))
abbrev N_is_integer : List Str := ["thing"]
theorem sc_is_integer : FnScope N_is_integer ["thing"] (defScope s_is_integer) := ⟨rfl, rfl, rfl, by decide +kernel, rfl, by decide +kernel, by decide +kernel⟩
theorem ok_is_integer (A : Facts P w K mg base T)  : Fn P w K mg base 1 "is_integer" (spP K T mg 1 F_is_integer) := by
  obtain ⟨f, fd, hm, F, hb⟩ := A.d_is_integer
  exact fn_P (k := 0) F sc_is_integer rfl hm hb fun cdv A0 outer s H E W hr tk => (ss_one (ss_ret (de_and (de_still (ds_isi (ds_var 0) rfl A.b_isinstance rfl A.b_int (by decide +kernel))) (de_one (de_not (de_still (ds_isi (ds_var 0) rfl A.b_isinstance rfl A.b_bool (by decide +kernel))))))))
abbrev N_is_within : List Str := ["thing", "low", "high"]
theorem sc_is_within : FnScope N_is_within ["thing", "low", "high"] (defScope s_is_within) := ⟨rfl, rfl, rfl, by decide +kernel, rfl, by decide +kernel, by decide +kernel⟩
theorem ok_is_within (A : Facts P w K mg base T) (G_is_integer : Fn P w K mg base 1 "is_integer" (spP K T mg 1 F_is_integer)) : Fn P w K mg base 2 "is_within" (spP K T mg 3 F_is_within) := by
  obtain ⟨f, fd, hm, F, hb⟩ := A.d_is_within
  exact fn_P (k := 1) F sc_is_within rfl hm hb fun cdv A0 outer s H E W hr tk => (ss_one (ss_ret (de_and (de_call (n := 1) (G_is_integer) tk (hr.mono (by decide)) rfl (da_cons (de_var 0) da_nil) ((lenM_cons lenM_nil).h)) (de_one (de_still (ds_ch bv_le bv_le (ds_var 1) (ds_var 0) (ds_var 2)))))))
abbrev N_is_rota : List Str := ["thing", "one"]
theorem sc_is_rota : FnScope N_is_rota ["thing"] (defScope s_is_rota) := ⟨rfl, rfl, rfl, by decide +kernel, rfl, by decide +kernel, by decide +kernel⟩
theorem ok_is_rota (A : Facts P w K mg base T) (G_is_sized : Fn P w K mg base 1 "is_sized" (spP K T mg 3 F_is_sized)) (G_is_within : Fn P w K mg base 2 "is_within" (spP K T mg 3 F_is_within)) : Fn P w K mg base 3 "is_rota" (spP K T mg 1 F_is_rota) := by
  obtain ⟨f, fd, hm, F, hb⟩ := A.d_is_rota
  exact fn_P (k := 2) F sc_is_rota rfl hm hb fun cdv A0 outer s H E W hr tk => (ss_one (ss_ret (de_and (de_call (n := 3) (G_is_sized) tk (hr.mono (by decide)) rfl (da_cons (de_var 0) (da_cons de_int (da_cons (de_glob A.k_MOST_ROTA_DAYS rfl) da_nil))) ((lenM_cons (lenM_cons (lenM_cons lenM_nil))).h)) (de_one (de_callB (CalS.d (cs_all rfl)) rfl A.b_all (by decide +kernel) (da_cons (de_lc (own := [("one", 1)]) 0 rfl sc_is_rota.nd (di_seq (de_var 0)) (show BlkOk N_is_rota (defScope s_is_rota) _ [("one", 1)] from ⟨rfl, by decide +kernel, by decide +kernel, by decide +kernel, by decide +kernel⟩) (fun _ _ _ _ _ => (dc_name 1 sc_is_rota.nd)) (fun _ _ _ _ _ => dts_nil) (fun _ _ _ _ _ => (de_call (n := 3) (G_is_within) tk0 (hr.mono (by decide)) rfl (da_cons (de_var 1) (da_cons (de_glob A.k_RESTING rfl) (da_cons (de_glob A.k_NIGHT_WATCH rfl) da_nil))) ((lenM_cons (lenM_cons (lenM_cons lenM_nil))).h)))) da_nil))))))
abbrev N_check_rota : List Str := ["rota"]
theorem sc_check_rota : FnScope N_check_rota ["rota"] (defScope s_check_rota) := ⟨rfl, rfl, rfl, by decide +kernel, rfl, by decide +kernel, by decide +kernel⟩
theorem ok_check_rota (A : Facts P w K mg base T) (G_is_rota : Fn P w K mg base 3 "is_rota" (spP K T mg 1 F_is_rota)) : Fn P w K mg base 4 "check_rota" (spP K T mg 1 F_check_rota) := by
  obtain ⟨f, fd, hm, F, hb⟩ := A.d_check_rota
  obtain ⟨C_NoRota, Hc_NoRota⟩ := A.c_NoRota
  exact fn_P (k := 3) F sc_check_rota rfl hm hb fun cdv A0 outer s H E W hr tk => (ss_one (ss_if (dt_not (dt_val (de_call (n := 1) (G_is_rota) tk (hr.mono (by decide)) rfl (da_cons (de_var 0) da_nil) ((lenM_cons lenM_nil).h)))) (ss_one (ss_raise rfl tk Hc_NoRota rfl)) ss_nil))
abbrev N_had : List Str := ["rota", "crew", "day"]
theorem sc_had : FnScope N_had ["rota", "crew", "day"] (defScope s_had) := ⟨rfl, rfl, rfl, by decide +kernel, rfl, by decide +kernel, by decide +kernel⟩
theorem ok_had (A : Facts P w K mg base T)  : Fn P w K mg base 1 "had" (spP K T mg 3 F_had) := by
  obtain ⟨f, fd, hm, F, hb⟩ := A.d_had
  exact fn_P (k := 0) F sc_had rfl hm hb fun cdv A0 outer s H E W hr tk => (ss_one (ss_ret (de_ch (ds_ix (ds_var 0) (ds_bin bv_mod (ds_bin bv_add (ds_var 1) (ds_var 2)) (ds_callB (cs_len) rfl A.b_len (by decide +kernel) (dsa_cons (ds_var 0) dsa_nil)))) (de_ix (de_var 0) (de_still (ds_bin bv_mod (ds_bin bv_add (ds_var 1) (ds_var 2)) (ds_callB (cs_len) rfl A.b_len (by decide +kernel) (dsa_cons (ds_var 0) dsa_nil))))))))
abbrev N_next_watch : List Str := ["rota", "crew", "day", "step", "days", "kind"]
theorem sc_next_watch : FnScope N_next_watch ["rota", "crew", "day", "step"] (defScope s_next_watch) := ⟨rfl, rfl, rfl, by decide +kernel, rfl, by decide +kernel, by decide +kernel⟩
theorem ok_next_watch (A : Facts P w K mg base T) (G_had : Fn P w K mg base 1 "had" (spP K T mg 3 F_had)) : Fn P w K mg base 2 "next_watch" (spP K T mg 4 F_next_watch) := by
  obtain ⟨f, fd, hm, F, hb⟩ := A.d_next_watch
  exact fn_P (k := 1) F sc_next_watch rfl hm hb fun cdv A0 outer s H E W hr tk => (ss_cons (ss_for (passes_of rfl) rfl (di_range2 rfl A.b_range (da_cons de_int (da_cons (de_ch (ds_bin bv_add (ds_callB (cs_len) rfl A.b_len (by decide +kernel) (dsa_cons (ds_var 0) dsa_nil)) ds_int) (de_bin bd_cat (de_still (ds_callB (cs_len) rfl A.b_len (by decide +kernel) (dsa_cons (ds_var 0) dsa_nil))) de_int)) da_nil))) (dg_name 4 sc_next_watch.nd) (ss_cons (ss_set 5 sc_next_watch.nd (de_call (n := 3) (G_had) tk (hr.mono (by decide)) rfl (da_cons (de_var 0) (da_cons (de_var 1) (da_cons (de_ch (ds_bin bv_add (ds_var 2) (ds_bin bv_mul (ds_var 3) (ds_var 4))) (de_bin bd_cat (de_var 2) (de_ch (ds_bin bv_mul (ds_var 3) (ds_var 4)) (de_bin bd_rep (de_var 3) (de_var 4))))) da_nil))) ((lenM_cons (lenM_cons (lenM_cons lenM_nil))).h)))
      (ss_one (ss_if (dt_cmpS (bv_ne hr.units) (ds_var 5) (ds_glob A.k_RESTING rfl)) (ss_one (ss_ret (de_tup (da_cons (de_var 4) (da_cons (de_var 5) da_nil))))) ss_nil))))
      (ss_one (ss_ret de_non)))
abbrev N_rest_hours : List Str := ["first", "later", "days"]
theorem sc_rest_hours : FnScope N_rest_hours ["first", "later", "days"] (defScope s_rest_hours) := ⟨rfl, rfl, rfl, by decide +kernel, rfl, by decide +kernel, by decide +kernel⟩
theorem ok_rest_hours (A : Facts P w K mg base T)  : Fn P w K mg base 1 "rest_hours" (spP K T mg 3 F_rest_hours) := by
  obtain ⟨f, fd, hm, F, hb⟩ := A.d_rest_hours
  exact fn_P (k := 0) F sc_rest_hours rfl hm hb fun cdv A0 outer s H E W hr tk => (ss_one (ss_ret (de_still (ds_bin bv_sub (ds_bin bv_sub (ds_bin bv_add (ds_bin bv_mul (ds_var 2) (ds_glob A.k_DAY_HOURS rfl)) (ds_ix (ds_glob A.k_WATCH_BEGINS rfl) (ds_var 1))) (ds_ix (ds_glob A.k_WATCH_BEGINS rfl) (ds_var 0))) (ds_glob A.k_WATCH_HOURS rfl)))))
abbrev N_least_rest : List Str := ["rota", "found", "place", "kind", "days", "later", "hours"]
theorem sc_least_rest : FnScope N_least_rest ["rota"] (defScope s_least_rest) := ⟨rfl, rfl, rfl, by decide +kernel, rfl, by decide +kernel, by decide +kernel⟩
theorem ok_least_rest (A : Facts P w K mg base T) (G_check_rota : Fn P w K mg base 4 "check_rota" (spP K T mg 1 F_check_rota)) (G_next_watch : Fn P w K mg base 2 "next_watch" (spP K T mg 4 F_next_watch)) (G_rest_hours : Fn P w K mg base 1 "rest_hours" (spP K T mg 3 F_rest_hours)) : Fn P w K mg base 5 "least_rest" (spP K T mg 1 F_least_rest) := by
  obtain ⟨f, fd, hm, F, hb⟩ := A.d_least_rest
  exact fn_P (k := 4) F sc_least_rest rfl hm hb fun cdv A0 outer s H E W hr tk => (ss_cons (ss_expr (de_call (n := 1) (G_check_rota) tk (hr.mono (by decide)) rfl (da_cons (de_var 0) da_nil) ((lenM_cons lenM_nil).h)))
      (ss_cons (ss_set 1 sc_least_rest.nd de_non)
      (ss_cons (ss_for (passes_of rfl) rfl (di_enum rfl A.b_enumerate (da_cons (de_var 0) da_nil)) (dg_tup rfl (dgs_cons (dg_name 2 sc_least_rest.nd) (dgs_cons (dg_name 3 sc_least_rest.nd) dgs_nil))) (ss_one (ss_if (dt_cmpS (bv_ne hr.units) (ds_var 3) (ds_glob A.k_RESTING rfl)) (ss_cons (ss_asg (de_call (n := 4) (G_next_watch) tk (hr.mono (by decide)) rfl (da_cons (de_var 0) (da_cons de_int (da_cons (de_var 2) (da_cons de_int da_nil)))) ((lenM_cons (lenM_cons (lenM_cons (lenM_cons lenM_nil)))).h)) (dg_tup rfl (dgs_cons (dg_name 4 sc_least_rest.nd) (dgs_cons (dg_name 5 sc_least_rest.nd) dgs_nil))))
      (ss_cons (ss_set 6 sc_least_rest.nd (de_call (n := 3) (G_rest_hours) tk (hr.mono (by decide)) rfl (da_cons (de_var 3) (da_cons (de_var 5) (da_cons (de_var 4) da_nil))) ((lenM_cons (lenM_cons (lenM_cons lenM_nil))).h)))
      (ss_one (ss_set 1 sc_least_rest.nd (de_if (dt_cmpS bv_is (ds_var 1) ds_non) (de_var 6) (de_still (ds_callB (cs_min rfl) rfl A.b_min (by decide +kernel) (dsa_cons (ds_var 1) (dsa_cons (ds_var 6) dsa_nil))))))))) ss_nil)))
      (ss_one (ss_retV 1)))))
abbrev N_check_crews : List Str := ["rota", "crews", "one"]
theorem sc_check_crews : FnScope N_check_crews ["rota", "crews"] (defScope s_check_crews) := ⟨rfl, rfl, rfl, by decide +kernel, rfl, by decide +kernel, by decide +kernel⟩
theorem ok_check_crews (A : Facts P w K mg base T) (G_check_rota : Fn P w K mg base 4 "check_rota" (spP K T mg 1 F_check_rota)) (G_is_sized : Fn P w K mg base 1 "is_sized" (spP K T mg 3 F_is_sized)) (G_is_within : Fn P w K mg base 2 "is_within" (spP K T mg 3 F_is_within)) : Fn P w K mg base 5 "check_crews" (spP K T mg 2 F_check_crews) := by
  obtain ⟨f, fd, hm, F, hb⟩ := A.d_check_crews
  obtain ⟨C_NoCrews, Hc_NoCrews⟩ := A.c_NoCrews
  exact fn_P (k := 4) F sc_check_crews rfl hm hb fun cdv A0 outer s H E W hr tk => (ss_cons (ss_expr (de_call (n := 1) (G_check_rota) tk (hr.mono (by decide)) rfl (da_cons (de_var 0) da_nil) ((lenM_cons lenM_nil).h)))
      (ss_one (ss_if (dt_w (dw_or (dt_not (dt_val (de_call (n := 3) (G_is_sized) tk (hr.mono (by decide)) rfl (da_cons (de_var 1) (da_cons de_int (da_cons (de_glob A.k_MOST_CREWS rfl) da_nil))) ((lenM_cons (lenM_cons (lenM_cons lenM_nil))).h)))) (dw_or1 (dt_not (dt_val (de_callB (CalS.d (cs_all rfl)) rfl A.b_all (by decide +kernel) (da_cons (de_lc (own := [("one", 2)]) 0 rfl sc_check_crews.nd (di_seq (de_var 1)) (show BlkOk N_check_crews (defScope s_check_crews) _ [("one", 2)] from ⟨rfl, by decide +kernel, by decide +kernel, by decide +kernel, by decide +kernel⟩) (fun _ _ _ _ _ => (dc_name 2 sc_check_crews.nd)) (fun _ _ _ _ _ => dts_nil) (fun _ _ _ _ _ => (de_call (n := 3) (G_is_within) tk0 (hr.mono (by decide)) rfl (da_cons (de_var 2) (da_cons de_int (da_cons (de_still (ds_bin bv_sub (ds_callB (cs_len) rfl A.b_len (by decide +kernel) (dsa_cons (ds_var 0) dsa_nil)) ds_int)) da_nil))) ((lenM_cons (lenM_cons (lenM_cons lenM_nil))).h)))) da_nil))))))) (ss_one (ss_raise rfl tk Hc_NoCrews rfl)) ss_nil)))
abbrev N_duty_lot : List Str := ["rota", "crews", "day", "kind", "at", "crew"]
theorem sc_duty_lot : FnScope N_duty_lot ["rota", "crews", "day", "kind"] (defScope s_duty_lot) := ⟨rfl, rfl, rfl, by decide +kernel, rfl, by decide +kernel, by decide +kernel⟩
theorem ok_duty_lot (A : Facts P w K mg base T) (G_had : Fn P w K mg base 1 "had" (spP K T mg 3 F_had)) : Fn P w K mg base 2 "duty_lot" (spP K T mg 4 F_duty_lot) := by
  obtain ⟨f, fd, hm, F, hb⟩ := A.d_duty_lot
  exact fn_P (k := 1) F sc_duty_lot rfl hm hb fun cdv A0 outer s H E W hr tk => (ss_one (ss_ret (de_callT cd_tupl rfl A.b_tuple (by decide +kernel) (da_cons (de_lc (own := [("at", 4), ("crew", 5)]) 0 rfl sc_duty_lot.nd (di_enum rfl A.b_enumerate (da_cons (de_var 1) da_nil)) (show BlkOk N_duty_lot (defScope s_duty_lot) _ [("at", 4), ("crew", 5)] from ⟨rfl, by decide +kernel, by decide +kernel, by decide +kernel, by decide +kernel⟩) (fun _ _ _ _ _ => (dc_tup rfl (dcs_cons (dc_name 4 sc_duty_lot.nd) (dcs_cons (dc_name 5 sc_duty_lot.nd) dcs_nil)))) (fun _ _ _ _ _ => (dts_one (dt_cmpB (bv_eq hr.units) (de_call (n := 3) (G_had) tk0 (hr.mono (by decide)) rfl (da_cons (de_var 0) (da_cons (de_var 5) (da_cons (de_var 2) da_nil))) ((lenM_cons (lenM_cons (lenM_cons lenM_nil))).h)) (ds_var 3)))) (fun _ _ _ _ _ => (de_var 4))) da_nil))))
abbrev N_manned : List Str := ["rota", "crews", "days", "fewest", "kind", "day"]
theorem sc_manned : FnScope N_manned ["rota", "crews"] (defScope s_manned) := ⟨rfl, rfl, rfl, by decide +kernel, rfl, by decide +kernel, by decide +kernel⟩
theorem ok_manned (A : Facts P w K mg base T) (G_check_crews : Fn P w K mg base 5 "check_crews" (spP K T mg 2 F_check_crews)) (G_duty_lot : Fn P w K mg base 2 "duty_lot" (spP K T mg 4 F_duty_lot)) : Fn P w K mg base 6 "manned" (spP K T mg 2 F_manned) := by
  obtain ⟨f, fd, hm, F, hb⟩ := A.d_manned
  exact fn_P (k := 5) F sc_manned rfl hm hb fun cdv A0 outer s H E W hr tk => (ss_cons (ss_expr (de_call (n := 2) (G_check_crews) tk (hr.mono (by decide)) rfl (da_cons (de_var 0) (da_cons (de_var 1) da_nil)) ((lenM_cons (lenM_cons lenM_nil)).h)))
      (ss_cons (ss_set 2 sc_manned.nd (de_rgL1 rfl rfl A.b_list rfl A.b_range (ds_callB (cs_len) rfl A.b_len (by decide +kernel) (dsa_cons (ds_var 0) dsa_nil))))
      (ss_cons (ss_set 3 sc_manned.nd (de_lst da_nil))
      (ss_cons (ss_for (passes_of rfl) rfl (di_seq (de_tup (da_cons (de_glob A.k_DAY_WATCH rfl) (da_cons (de_glob A.k_NIGHT_WATCH rfl) da_nil)))) (dg_name 4 sc_manned.nd) (ss_one (ss_append 3 (de_callB (CalS.d (cs_min rfl)) rfl A.b_min (by decide +kernel) (da_cons (de_lc (own := [("day", 5)]) 0 rfl sc_manned.nd (di_seq (de_var 2)) (show BlkOk N_manned (defScope s_manned) _ [("day", 5)] from ⟨rfl, by decide +kernel, by decide +kernel, by decide +kernel, by decide +kernel⟩) (fun _ _ _ _ _ => (dc_name 5 sc_manned.nd)) (fun _ _ _ _ _ => dts_nil) (fun _ _ _ _ _ => (de_callB (CalS.d (cs_len)) rfl A.b_len (by decide +kernel) (da_cons (de_call (n := 4) (G_duty_lot) tk0 (hr.mono (by decide)) rfl (da_cons (de_var 0) (da_cons (de_var 1) (da_cons (de_var 5) (da_cons (de_var 4) da_nil)))) ((lenM_cons (lenM_cons (lenM_cons (lenM_cons lenM_nil)))).h)) da_nil)))) da_nil)))))
      (ss_one (ss_ret (de_tup (da_cons (de_ch (ds_ix (ds_var 3) ds_int) (de_ix (de_var 3) de_int)) (da_cons (de_ch (ds_ix (ds_var 3) ds_int) (de_ix (de_var 3) de_int)) da_nil)))))))))
abbrev N_check_day : List Str := ["day"]
theorem sc_check_day : FnScope N_check_day ["day"] (defScope s_check_day) := ⟨rfl, rfl, rfl, by decide +kernel, rfl, by decide +kernel, by decide +kernel⟩
theorem ok_check_day (A : Facts P w K mg base T) (G_is_within : Fn P w K mg base 2 "is_within" (spP K T mg 3 F_is_within)) : Fn P w K mg base 3 "check_day" (spP K T mg 1 F_check_day) := by
  obtain ⟨f, fd, hm, F, hb⟩ := A.d_check_day
  obtain ⟨C_NoDay, Hc_NoDay⟩ := A.c_NoDay
  exact fn_P (k := 2) F sc_check_day rfl hm hb fun cdv A0 outer s H E W hr tk => (ss_one (ss_if (dt_not (dt_val (de_call (n := 3) (G_is_within) tk (hr.mono (by decide)) rfl (da_cons (de_var 0) (da_cons de_int (da_cons (de_glob A.k_MOST_DAY rfl) da_nil))) ((lenM_cons (lenM_cons (lenM_cons lenM_nil))).h)))) (ss_one (ss_raise rfl tk Hc_NoDay rfl)) ss_nil))
abbrev N_on_duty : List Str := ["rota", "crews", "day", "kind"]
theorem sc_on_duty : FnScope N_on_duty ["rota", "crews", "day", "kind"] (defScope s_on_duty) := ⟨rfl, rfl, rfl, by decide +kernel, rfl, by decide +kernel, by decide +kernel⟩
theorem ok_on_duty (A : Facts P w K mg base T) (G_check_crews : Fn P w K mg base 5 "check_crews" (spP K T mg 2 F_check_crews)) (G_check_day : Fn P w K mg base 3 "check_day" (spP K T mg 1 F_check_day)) (G_duty_lot : Fn P w K mg base 2 "duty_lot" (spP K T mg 4 F_duty_lot)) (G_is_within : Fn P w K mg base 2 "is_within" (spP K T mg 3 F_is_within)) : Fn P w K mg base 6 "on_duty" (spP K T mg 4 F_on_duty) := by
  obtain ⟨f, fd, hm, F, hb⟩ := A.d_on_duty
  obtain ⟨C_NoKind, Hc_NoKind⟩ := A.c_NoKind
  exact fn_P (k := 5) F sc_on_duty rfl hm hb fun cdv A0 outer s H E W hr tk => (ss_cons (ss_expr (de_call (n := 2) (G_check_crews) tk (hr.mono (by decide)) rfl (da_cons (de_var 0) (da_cons (de_var 1) da_nil)) ((lenM_cons (lenM_cons lenM_nil)).h)))
      (ss_cons (ss_expr (de_call (n := 1) (G_check_day) tk (hr.mono (by decide)) rfl (da_cons (de_var 2) da_nil) ((lenM_cons lenM_nil).h)))
      (ss_cons (ss_if (dt_not (dt_val (de_call (n := 3) (G_is_within) tk (hr.mono (by decide)) rfl (da_cons (de_var 3) (da_cons (de_glob A.k_DAY_WATCH rfl) (da_cons (de_glob A.k_NIGHT_WATCH rfl) da_nil))) ((lenM_cons (lenM_cons (lenM_cons lenM_nil))).h)))) (ss_one (ss_raise rfl tk Hc_NoKind rfl)) ss_nil)
      (ss_one (ss_ret (de_call (n := 4) (G_duty_lot) tk (hr.mono (by decide)) rfl (da_cons (de_var 0) (da_cons (de_var 1) (da_cons (de_var 2) (da_cons (de_var 3) da_nil)))) ((lenM_cons (lenM_cons (lenM_cons (lenM_cons lenM_nil)))).h)))))))
abbrev N_check_crew : List Str := ["crews", "crew"]
theorem sc_check_crew : FnScope N_check_crew ["crews", "crew"] (defScope s_check_crew) := ⟨rfl, rfl, rfl, by decide +kernel, rfl, by decide +kernel, by decide +kernel⟩
theorem ok_check_crew (A : Facts P w K mg base T) (G_is_within : Fn P w K mg base 2 "is_within" (spP K T mg 3 F_is_within)) : Fn P w K mg base 3 "check_crew" (spP K T mg 2 F_check_crew) := by
  obtain ⟨f, fd, hm, F, hb⟩ := A.d_check_crew
  obtain ⟨C_NoCrew, Hc_NoCrew⟩ := A.c_NoCrew
  exact fn_P (k := 2) F sc_check_crew rfl hm hb fun cdv A0 outer s H E W hr tk => (ss_one (ss_if (dt_not (dt_val (de_call (n := 3) (G_is_within) tk (hr.mono (by decide)) rfl (da_cons (de_var 1) (da_cons de_int (da_cons (de_still (ds_bin bv_sub (ds_callB (cs_len) rfl A.b_len (by decide +kernel) (dsa_cons (ds_var 0) dsa_nil)) ds_int)) da_nil))) ((lenM_cons (lenM_cons (lenM_cons lenM_nil))).h)))) (ss_one (ss_raise rfl tk Hc_NoCrew rfl)) ss_nil))
abbrev N_watch_at : List Str := ["rota", "crews", "crew", "day"]
theorem sc_watch_at : FnScope N_watch_at ["rota", "crews", "crew", "day"] (defScope s_watch_at) := ⟨rfl, rfl, rfl, by decide +kernel, rfl, by decide +kernel, by decide +kernel⟩
theorem ok_watch_at (A : Facts P w K mg base T) (G_check_crew : Fn P w K mg base 3 "check_crew" (spP K T mg 2 F_check_crew)) (G_check_crews : Fn P w K mg base 5 "check_crews" (spP K T mg 2 F_check_crews)) (G_check_day : Fn P w K mg base 3 "check_day" (spP K T mg 1 F_check_day)) (G_had : Fn P w K mg base 1 "had" (spP K T mg 3 F_had)) : Fn P w K mg base 6 "watch_at" (spP K T mg 4 F_watch_at) := by
  obtain ⟨f, fd, hm, F, hb⟩ := A.d_watch_at
  exact fn_P (k := 5) F sc_watch_at rfl hm hb fun cdv A0 outer s H E W hr tk => (ss_cons (ss_expr (de_call (n := 2) (G_check_crews) tk (hr.mono (by decide)) rfl (da_cons (de_var 0) (da_cons (de_var 1) da_nil)) ((lenM_cons (lenM_cons lenM_nil)).h)))
      (ss_cons (ss_expr (de_call (n := 2) (G_check_crew) tk (hr.mono (by decide)) rfl (da_cons (de_var 1) (da_cons (de_var 2) da_nil)) ((lenM_cons (lenM_cons lenM_nil)).h)))
      (ss_cons (ss_expr (de_call (n := 1) (G_check_day) tk (hr.mono (by decide)) rfl (da_cons (de_var 3) da_nil) ((lenM_cons lenM_nil).h)))
      (ss_one (ss_ret (de_call (n := 3) (G_had) tk (hr.mono (by decide)) rfl (da_cons (de_var 0) (da_cons (de_ch (ds_ix (ds_var 1) (ds_var 2)) (de_ix (de_var 1) (de_var 2))) (da_cons (de_var 3) da_nil))) ((lenM_cons (lenM_cons (lenM_cons lenM_nil))).h)))))))
abbrev N__law_refused_right : List Str := ["hand", "words", "due", "bad", "crew", "crews", "day", "good", "kind"]
theorem sc__law_refused_right : FnScope N__law_refused_right ["hand"] (defScope s__law_refused_right) := ⟨rfl, rfl, rfl, by decide +kernel, rfl, by decide +kernel, by decide +kernel⟩
theorem ok__law_refused_right (A : Facts P w K mg base T) {c PT : Addr} (TB : LamX.TabB base mg c PT) (hmT : (PT, (envOfC "_law_refused_right" (defScope s__law_refused_right) 0 0 (.ref c)).qual ++ "<lambda>") ∈ T) (hu : ∀ p ∈ T, p.1 = PT → p.2 = (envOfC "_law_refused_right" (defScope s__law_refused_right) 0 0 (.ref c)).qual ++ "<lambda>") {f : Addr} {fd : FuncData} (F : FunC K "_law_refused_right" "_law_refused_right" s__law_refused_right f fd (.ref c)) (hm : mg "_law_refused_right" = some (.ref f)) (hb : L2.Binds K fd ["hand"] []) (G__law_any : Fn P w K mg base 2 "_law_any" (spI K T mg 1 F__law_any)) (G__law_odd : Fn P w K mg base 3 "_law_odd" (spI K T mg 0 F__law_odd)) (G_is_rota : Fn P w K mg base 3 "is_rota" (spP K T mg 1 F_is_rota)) (G_least_rest : Fn P w K mg base 5 "least_rest" (spP K T mg 1 F_least_rest)) (G_manned : Fn P w K mg base 6 "manned" (spP K T mg 2 F_manned)) (G_on_duty : Fn P w K mg base 6 "on_duty" (spP K T mg 4 F_on_duty)) (G_watch_at : Fn P w K mg base 6 "watch_at" (spP K T mg 4 F_watch_at)) :
    Fn P w K mg base 9 "_law_refused_right" (spI K T mg 0 F__law_refused_right) := by
  exact fnC_I (k := 8) F sc__law_refused_right rfl hm hb fun A0 outer s H E W hr tk => (ss_cons (ss_set 3 sc__law_refused_right.nd (de_callI (i := 0) (n := 1) (G__law_any) tk (hr.mono (by decide)) rfl (da_cons (de_lst (da_cons de_non (da_cons (de_tup da_nil) (da_cons (de_lst (da_cons de_int (da_cons de_int da_nil))) (da_cons (de_tup (da_cons de_int da_nil)) (da_cons (de_tup (da_cons (de_still (ds_neg ds_int)) da_nil)) (da_cons (de_tup (da_cons de_bl da_nil)) (da_cons (de_bin bd_rep (de_tup (da_cons de_int da_nil)) de_int) (da_cons de_str (da_cons de_int (da_cons (de_callI (i := 0) (n := 0) (G__law_odd) tk (hr.mono (by decide)) rfl da_nil (lenM_nil.h)) da_nil))))))))))) da_nil) ((lenM_cons lenM_nil).h)))
      (ss_cons (ss_set 7 sc__law_refused_right.nd (de_tup (da_cons de_int (da_cons de_int (da_cons de_int da_nil)))))
      (ss_cons (ss_set 5 sc__law_refused_right.nd (de_callI (i := 0) (n := 1) (G__law_any) tk (hr.mono (by decide)) rfl (da_cons (de_lst (da_cons de_non (da_cons (de_tup da_nil) (da_cons (de_lst (da_cons de_int da_nil)) (da_cons (de_tup (da_cons de_int da_nil)) (da_cons (de_tup (da_cons (de_still (ds_neg ds_int)) da_nil)) (da_cons (de_tup (da_cons de_bl da_nil)) (da_cons (de_bin bd_rep (de_tup (da_cons de_int da_nil)) de_int) (da_cons de_int (da_cons (de_callI (i := 0) (n := 0) (G__law_odd) tk (hr.mono (by decide)) rfl da_nil (lenM_nil.h)) da_nil)))))))))) da_nil) ((lenM_cons lenM_nil).h)))
      (ss_cons (ss_set 4 sc__law_refused_right.nd (de_callI (i := 0) (n := 1) (G__law_any) tk (hr.mono (by decide)) rfl (da_cons (de_lst (da_cons de_non (da_cons (de_still (ds_neg ds_int)) (da_cons de_int (da_cons de_bl (da_cons de_str (da_cons (de_callI (i := 0) (n := 0) (G__law_odd) tk (hr.mono (by decide)) rfl da_nil (lenM_nil.h)) da_nil))))))) da_nil) ((lenM_cons lenM_nil).h)))
      (ss_cons (ss_set 6 sc__law_refused_right.nd (de_callI (i := 0) (n := 1) (G__law_any) tk (hr.mono (by decide)) rfl (da_cons (de_lst (da_cons de_non (da_cons (de_still (ds_neg ds_int)) (da_cons de_int (da_cons de_bl (da_cons de_str (da_cons (de_callI (i := 0) (n := 0) (G__law_odd) tk (hr.mono (by decide)) rfl da_nil (lenM_nil.h)) da_nil))))))) da_nil) ((lenM_cons lenM_nil).h)))
      (ss_cons (ss_set 8 sc__law_refused_right.nd (de_callI (i := 0) (n := 1) (G__law_any) tk (hr.mono (by decide)) rfl (da_cons (de_lst (da_cons de_non (da_cons de_int (da_cons de_int (da_cons de_bl (da_cons de_str (da_cons (de_callI (i := 0) (n := 0) (G__law_odd) tk (hr.mono (by decide)) rfl da_nil (lenM_nil.h)) da_nil))))))) da_nil) ((lenM_cons lenM_nil).h)))
      (ss_cons (ss_set 1 sc__law_refused_right.nd (de_lst (da_cons (de_lam (k := 6) [3, 4, 5, 6] A.wd rfl TB rfl hmT hu (hr.mono (by decide)) (fun A' outer' s' H' E' f' c' W' hr' tk' => (de_call (n := 4) (G_watch_at) tk' (hr'.mono (by decide)) rfl (da_cons (de_var 3) (da_cons (de_var 5) (da_cons (de_var 4) (da_cons (de_var 6) da_nil)))) ((lenM_cons (lenM_cons (lenM_cons (lenM_cons lenM_nil)))).h))) (L := (show LamX.lamSB (defScope s__law_refused_right) _ = true from by decide +kernel))) da_nil)))
      (ss_cons (ss_append 1 (de_lam (k := 6) [4, 5, 6, 7] A.wd rfl TB rfl hmT hu (hr.mono (by decide)) (fun A' outer' s' H' E' f' c' W' hr' tk' => (de_call (n := 4) (G_watch_at) tk' (hr'.mono (by decide)) rfl (da_cons (de_var 7) (da_cons (de_var 5) (da_cons (de_var 4) (da_cons (de_var 6) da_nil)))) ((lenM_cons (lenM_cons (lenM_cons (lenM_cons lenM_nil)))).h))) (L := (show LamX.lamSB (defScope s__law_refused_right) _ = true from by decide +kernel))))
      (ss_cons (ss_append 1 (de_lam (k := 6) [4, 6, 7] A.wd rfl TB rfl hmT hu (hr.mono (by decide)) (fun A' outer' s' H' E' f' c' W' hr' tk' => (de_call (n := 4) (G_watch_at) tk' (hr'.mono (by decide)) rfl (da_cons (de_var 7) (da_cons (de_tup (da_cons de_int (da_cons de_int da_nil))) (da_cons (de_var 4) (da_cons (de_var 6) da_nil)))) ((lenM_cons (lenM_cons (lenM_cons (lenM_cons lenM_nil)))).h))) (L := (show LamX.lamSB (defScope s__law_refused_right) _ = true from by decide +kernel))))
      (ss_cons (ss_append 1 (de_lam (k := 6) [6, 7] A.wd rfl TB rfl hmT hu (hr.mono (by decide)) (fun A' outer' s' H' E' f' c' W' hr' tk' => (de_call (n := 4) (G_watch_at) tk' (hr'.mono (by decide)) rfl (da_cons (de_var 7) (da_cons (de_tup (da_cons de_int (da_cons de_int da_nil))) (da_cons de_int (da_cons (de_var 6) da_nil)))) ((lenM_cons (lenM_cons (lenM_cons (lenM_cons lenM_nil)))).h))) (L := (show LamX.lamSB (defScope s__law_refused_right) _ = true from by decide +kernel))))
      (ss_cons (ss_append 1 (de_lam (k := 6) [3, 5, 6, 8] A.wd rfl TB rfl hmT hu (hr.mono (by decide)) (fun A' outer' s' H' E' f' c' W' hr' tk' => (de_call (n := 4) (G_on_duty) tk' (hr'.mono (by decide)) rfl (da_cons (de_var 3) (da_cons (de_var 5) (da_cons (de_var 6) (da_cons (de_var 8) da_nil)))) ((lenM_cons (lenM_cons (lenM_cons (lenM_cons lenM_nil)))).h))) (L := (show LamX.lamSB (defScope s__law_refused_right) _ = true from by decide +kernel))))
      (ss_cons (ss_append 1 (de_lam (k := 6) [5, 6, 7, 8] A.wd rfl TB rfl hmT hu (hr.mono (by decide)) (fun A' outer' s' H' E' f' c' W' hr' tk' => (de_call (n := 4) (G_on_duty) tk' (hr'.mono (by decide)) rfl (da_cons (de_var 7) (da_cons (de_var 5) (da_cons (de_var 6) (da_cons (de_var 8) da_nil)))) ((lenM_cons (lenM_cons (lenM_cons (lenM_cons lenM_nil)))).h))) (L := (show LamX.lamSB (defScope s__law_refused_right) _ = true from by decide +kernel))))
      (ss_cons (ss_append 1 (de_lam (k := 6) [6, 7, 8] A.wd rfl TB rfl hmT hu (hr.mono (by decide)) (fun A' outer' s' H' E' f' c' W' hr' tk' => (de_call (n := 4) (G_on_duty) tk' (hr'.mono (by decide)) rfl (da_cons (de_var 7) (da_cons (de_tup (da_cons de_int (da_cons de_int da_nil))) (da_cons (de_var 6) (da_cons (de_var 8) da_nil)))) ((lenM_cons (lenM_cons (lenM_cons (lenM_cons lenM_nil)))).h))) (L := (show LamX.lamSB (defScope s__law_refused_right) _ = true from by decide +kernel))))
      (ss_cons (ss_append 1 (de_lam (k := 6) [7, 8] A.wd rfl TB rfl hmT hu (hr.mono (by decide)) (fun A' outer' s' H' E' f' c' W' hr' tk' => (de_call (n := 4) (G_on_duty) tk' (hr'.mono (by decide)) rfl (da_cons (de_var 7) (da_cons (de_tup (da_cons de_int (da_cons de_int da_nil))) (da_cons de_int (da_cons (de_var 8) da_nil)))) ((lenM_cons (lenM_cons (lenM_cons (lenM_cons lenM_nil)))).h))) (L := (show LamX.lamSB (defScope s__law_refused_right) _ = true from by decide +kernel))))
      (ss_cons (ss_append 1 (de_lam (k := 6) [3, 5] A.wd rfl TB rfl hmT hu (hr.mono (by decide)) (fun A' outer' s' H' E' f' c' W' hr' tk' => (de_call (n := 2) (G_manned) tk' (hr'.mono (by decide)) rfl (da_cons (de_var 3) (da_cons (de_var 5) da_nil)) ((lenM_cons (lenM_cons lenM_nil)).h))) (L := (show LamX.lamSB (defScope s__law_refused_right) _ = true from by decide +kernel))))
      (ss_cons (ss_append 1 (de_lam (k := 6) [5, 7] A.wd rfl TB rfl hmT hu (hr.mono (by decide)) (fun A' outer' s' H' E' f' c' W' hr' tk' => (de_call (n := 2) (G_manned) tk' (hr'.mono (by decide)) rfl (da_cons (de_var 7) (da_cons (de_var 5) da_nil)) ((lenM_cons (lenM_cons lenM_nil)).h))) (L := (show LamX.lamSB (defScope s__law_refused_right) _ = true from by decide +kernel))))
      (ss_cons (ss_append 1 (de_lam (k := 6) [3] A.wd rfl TB rfl hmT hu (hr.mono (by decide)) (fun A' outer' s' H' E' f' c' W' hr' tk' => (de_call (n := 1) (G_least_rest) tk' (hr'.mono (by decide)) rfl (da_cons (de_var 3) da_nil) ((lenM_cons lenM_nil).h))) (L := (show LamX.lamSB (defScope s__law_refused_right) _ = true from by decide +kernel))))
      (ss_cons (ss_set 2 sc__law_refused_right.nd (de_lst (da_cons de_str (da_cons de_str (da_cons de_str (da_cons de_str (da_cons de_str (da_cons de_str (da_cons de_str (da_cons de_str (da_cons de_str (da_cons de_str (da_cons de_str da_nil)))))))))))))
      (ss_one (ss_ret (de_and (de_still (ds_cmp (bv_eq hr.units) (ds_var 1) (ds_var 2))) (de_one (de_cmpB bv_is (de_call (n := 1) (G_is_rota) tk (hr.mono (by decide)) rfl (da_cons (de_var 3) da_nil) ((lenM_cons lenM_nil).h)) ds_bl)))))))))))))))))))))))
abbrev N__law_rota : List Str := ["hand", "rota", "crews", "day", "crew"]
theorem sc__law_rota : FnScope N__law_rota ["hand"] (defScope s__law_rota) := ⟨rfl, rfl, rfl, by decide +kernel, rfl, by decide +kernel, by decide +kernel⟩
theorem ok__law_rota (A : Facts P w K mg base T) (G__law_any : Fn P w K mg base 2 "_law_any" (spI K T mg 1 F__law_any)) (G__law_draw : Fn P w K mg base 1 "_law_draw" (spI K T mg 1 F__law_draw)) : Fn P w K mg base 3 "_law_rota" (spI K T mg 0 F__law_rota) := by
  obtain ⟨f, fd, hm, F, hb⟩ := A.d__law_rota
  exact fn_I (k := 2) F sc__law_rota rfl hm hb fun cdv A0 outer s H E W hr tk => (ss_cons (ss_set 1 sc__law_rota.nd (de_callT cd_ntpl rfl A.b_tuple (by decide +kernel) (da_cons (de_lc (own := [("day", 3)]) 0 rfl sc__law_rota.nd (di_range1 rfl A.b_range (da_cons (de_bin bd_cat de_int (de_callI (i := 0) (n := 1) (G__law_draw) tk (hr.mono (by decide)) rfl (da_cons de_int da_nil) ((lenM_cons lenM_nil).h))) da_nil)) (show BlkOk N__law_rota (defScope s__law_rota) _ [("day", 3)] from ⟨rfl, by decide +kernel, by decide +kernel, by decide +kernel, by decide +kernel⟩) (fun _ _ _ _ _ => (dc_name 3 sc__law_rota.nd)) (fun _ _ _ _ _ => dts_nil) (fun _ _ _ _ _ => (de_callI (i := 0) (n := 1) (G__law_any) tk0 (hr.mono (by decide)) rfl (da_cons (de_lst (da_cons de_int (da_cons de_int (da_cons de_int (da_cons de_int da_nil))))) da_nil) ((lenM_cons lenM_nil).h)))) da_nil)))
      (ss_cons (ss_set 2 sc__law_rota.nd (de_callT cd_tupl rfl A.b_tuple (by decide +kernel) (da_cons (de_lc (own := [("crew", 4)]) 0 rfl sc__law_rota.nd (di_range1 rfl A.b_range (da_cons (de_bin bd_cat de_int (de_callI (i := 0) (n := 1) (G__law_draw) tk (hr.mono (by decide)) rfl (da_cons de_int da_nil) ((lenM_cons lenM_nil).h))) da_nil)) (show BlkOk N__law_rota (defScope s__law_rota) _ [("crew", 4)] from ⟨rfl, by decide +kernel, by decide +kernel, by decide +kernel, by decide +kernel⟩) (fun _ _ _ _ _ => (dc_name 4 sc__law_rota.nd)) (fun _ _ _ _ _ => dts_nil) (fun _ _ _ _ _ => (de_callI (i := 0) (n := 1) (G__law_draw) tk0 (hr.mono (by decide)) rfl (da_cons (de_still (ds_callB (cs_len) rfl A.b_len (by decide +kernel) (dsa_cons (ds_nt (ds_var 1)) dsa_nil))) da_nil) ((lenM_cons lenM_nil).h)))) da_nil)))
      (ss_one (ss_ret (de_tup (da_cons (de_var 1) (da_cons (de_var 2) da_nil)))))))
abbrev N_law : List Str := ["script", "hand", "known", "four", "lap", "rota", "crews", "crew", "day", "kind", "duty", "fewest", "counts", "there", "told", "one"]
theorem sc_law : FnScope N_law ["script"] (defScope s_law) := ⟨rfl, rfl, rfl, by decide +kernel, rfl, by decide +kernel, by decide +kernel⟩
theorem ok_law (A : Facts P w K mg base T) {cd : Value} {f : Addr} {fd : FuncData} (F : FunC K "law" "law" s_law f fd cd) (hm : mg "law" = some (.ref f)) (hb : L2.Binds K fd ["script"] []) (G__law_any : Fn P w K mg base 2 "_law_any" (spI K T mg 1 F__law_any)) (G__law_at : Fn P w K mg base 1 "_law_at" (spP K T mg 4 F__law_at)) (G__law_draw : Fn P w K mg base 1 "_law_draw" (spI K T mg 1 F__law_draw)) (G__law_hand : Fn P w K mg base 1 "_law_hand" (spP K T mg 1 F__law_hand)) (G__law_least : Fn P w K mg base 3 "_law_least" (spP K T mg 1 F__law_least)) (G__law_refused_right : Fn P w K mg base 9 "_law_refused_right" (spI K T mg 0 F__law_refused_right)) (G__law_rota : Fn P w K mg base 3 "_law_rota" (spI K T mg 0 F__law_rota)) (G_is_rota : Fn P w K mg base 3 "is_rota" (spP K T mg 1 F_is_rota)) (G_least_rest : Fn P w K mg base 5 "least_rest" (spP K T mg 1 F_least_rest)) (G_manned : Fn P w K mg base 6 "manned" (spP K T mg 2 F_manned)) (G_on_duty : Fn P w K mg base 6 "on_duty" (spP K T mg 4 F_on_duty)) (G_watch_at : Fn P w K mg base 6 "watch_at" (spP K T mg 4 F_watch_at)) :
    FnOk P w K mg base (L2.CX P w) 10 f fd ["script"] (spP K T mg 1 F_law) := by
  exact fnC_P (k := 9) F sc_law rfl hm hb fun A0 outer s H E W hr tk => (ss_cons (ss_set 1 sc_law.nd (de_call (n := 1) (G__law_hand) tk (hr.mono (by decide)) rfl (da_cons (de_var 0) da_nil) ((lenM_cons lenM_nil).h)))
      (ss_cons (ss_asg (de_tup (da_cons (de_tup (da_cons de_int (da_cons de_int (da_cons de_int (da_cons de_int (da_cons de_int (da_cons de_int (da_cons de_int (da_cons de_int da_nil))))))))) (da_cons (de_tup (da_cons de_int (da_cons de_int (da_cons de_int (da_cons de_int da_nil))))) da_nil))) (dg_tup rfl (dgs_cons (dg_name 2 sc_law.nd) (dgs_cons (dg_name 3 sc_law.nd) dgs_nil))))
      (ss_cons (ss_if (dt_w (dw_or (dt_cmp (bv_ne hr.units) (de_call (n := 2) (G_manned) tk (hr.mono (by decide)) rfl (da_cons (de_var 2) (da_cons (de_var 3) da_nil)) ((lenM_cons (lenM_cons lenM_nil)).h)) (de_tup (da_cons de_int (da_cons de_int da_nil)))) (dw_or (dt_cmpB (bv_ne hr.units) (de_call (n := 1) (G_least_rest) tk (hr.mono (by decide)) rfl (da_cons (de_var 2) da_nil) ((lenM_cons lenM_nil).h)) ds_int) (dw_or1 (dt_cmp (bv_ne hr.units) (de_call (n := 4) (G_on_duty) tk (hr.mono (by decide)) rfl (da_cons (de_var 2) (da_cons (de_var 3) (da_cons de_int (da_cons de_int da_nil)))) ((lenM_cons (lenM_cons (lenM_cons (lenM_cons lenM_nil)))).h)) (de_tup (da_cons de_int da_nil))))))) (ss_one (ss_ret de_bl)) ss_nil)
      (ss_cons (ss_if (dt_w (dw_or (dt_cmpB bv_isnot (de_call (n := 1) (G_least_rest) tk (hr.mono (by decide)) rfl (da_cons (de_tup (da_cons de_int da_nil)) da_nil) ((lenM_cons lenM_nil).h)) ds_non) (dw_or (dt_cmpB (bv_ne hr.units) (de_call (n := 1) (G_least_rest) tk (hr.mono (by decide)) rfl (da_cons (de_tup (da_cons de_int (da_cons de_int da_nil))) da_nil) ((lenM_cons lenM_nil).h)) ds_int) (dw_or1 (dt_cmpB (bv_ne hr.units) (de_call (n := 1) (G_least_rest) tk (hr.mono (by decide)) rfl (da_cons (de_tup (da_cons de_int da_nil)) da_nil) ((lenM_cons lenM_nil).h)) ds_int))))) (ss_one (ss_ret de_bl)) ss_nil)
      (ss_cons (ss_if (dt_cmpB (bv_ne hr.units) (de_call (n := 4) (G_watch_at) tk (hr.mono (by decide)) rfl (da_cons (de_var 2) (da_cons (de_var 3) (da_cons de_int (da_cons de_int da_nil)))) ((lenM_cons (lenM_cons (lenM_cons (lenM_cons lenM_nil)))).h)) ds_int) (ss_one (ss_ret de_bl)) ss_nil)
      (ss_cons (ss_for (passes_of rfl) rfl (di_range1 rfl A.b_range (da_cons de_int da_nil)) (dg_name 4 sc_law.nd) (ss_cons (ss_asg (de_callI (i := 1) (n := 0) (G__law_rota) tk (hr.mono (by decide)) rfl da_nil (lenM_nil.h)) (dg_tup rfl (dgs_cons (dg_name 5 sc_law.nd) (dgs_cons (dg_name 6 sc_law.nd) dgs_nil))))
      (ss_cons (ss_asg (de_tup (da_cons (de_callI (i := 1) (n := 1) (G__law_draw) tk (hr.mono (by decide)) rfl (da_cons (de_still (ds_callB (cs_len) rfl A.b_len (by decide +kernel) (dsa_cons (ds_var 6) dsa_nil))) da_nil) ((lenM_cons lenM_nil).h)) (da_cons (de_callI (i := 1) (n := 1) (G__law_draw) tk (hr.mono (by decide)) rfl (da_cons (de_callI (i := 1) (n := 1) (G__law_any) tk (hr.mono (by decide)) rfl (da_cons (de_lst (da_cons de_int (da_cons de_int da_nil))) da_nil) ((lenM_cons lenM_nil).h)) da_nil) ((lenM_cons lenM_nil).h)) da_nil))) (dg_tup rfl (dgs_cons (dg_name 7 sc_law.nd) (dgs_cons (dg_name 8 sc_law.nd) dgs_nil))))
      (ss_cons (ss_if (dt_cmp (bv_ne hr.units) (de_call (n := 4) (G_watch_at) tk (hr.mono (by decide)) rfl (da_cons (de_nt (de_var 5)) (da_cons (de_var 6) (da_cons (de_var 7) (da_cons (de_var 8) da_nil)))) ((lenM_cons (lenM_cons (lenM_cons (lenM_cons lenM_nil)))).h)) (de_call (n := 4) (G__law_at) tk (hr.mono (by decide)) rfl (da_cons (de_nt (de_var 5)) (da_cons (de_var 6) (da_cons (de_var 7) (da_cons (de_var 8) da_nil)))) ((lenM_cons (lenM_cons (lenM_cons (lenM_cons lenM_nil)))).h))) (ss_one (ss_ret de_bl)) ss_nil)
      (ss_cons (ss_if (dt_cmp (bv_ne hr.units) (de_call (n := 1) (G_least_rest) tk (hr.mono (by decide)) rfl (da_cons (de_nt (de_var 5)) da_nil) ((lenM_cons lenM_nil).h)) (de_call (n := 1) (G__law_least) tk (hr.mono (by decide)) rfl (da_cons (de_nt (de_var 5)) da_nil) ((lenM_cons lenM_nil).h))) (ss_one (ss_ret de_bl)) ss_nil)
      (ss_cons (ss_for (passes_of rfl) rfl (di_seq (de_tup (da_cons de_int (da_cons de_int da_nil)))) (dg_name 9 sc_law.nd) (ss_cons (ss_setLc (own := [("one", 15)]) 10 0 rfl sc_law.nd (di_range1 rfl A.b_range (da_cons (de_still (ds_callB (cs_len) rfl A.b_len (by decide +kernel) (dsa_cons (ds_var 6) dsa_nil))) da_nil)) (show BlkOk N_law (defScope s_law) _ [("one", 15)] from ⟨rfl, by decide +kernel, by decide +kernel, by decide +kernel, by decide +kernel⟩) (fun _ _ _ _ _ => (dc_name 15 sc_law.nd)) (fun _ _ _ _ _ => (dts_one (dt_cmpB (bv_eq hr.units) (de_call (n := 4) (G__law_at) tk0 (hr.mono (by decide)) rfl (da_cons (de_nt (de_var 5)) (da_cons (de_var 6) (da_cons (de_var 15) (da_cons (de_var 8) da_nil)))) ((lenM_cons (lenM_cons (lenM_cons (lenM_cons lenM_nil)))).h)) (ds_var 9)))) (fun _ _ _ _ _ => (de_var 15)))
      (ss_one (ss_if (dt_cmp (bv_ne hr.units) (de_call (n := 4) (G_on_duty) tk (hr.mono (by decide)) rfl (da_cons (de_nt (de_var 5)) (da_cons (de_var 6) (da_cons (de_var 8) (da_cons (de_var 9) da_nil)))) ((lenM_cons (lenM_cons (lenM_cons (lenM_cons lenM_nil)))).h)) (de_callT cd_tupl rfl A.b_tuple (by decide +kernel) (da_cons (de_var 10) da_nil))) (ss_one (ss_ret de_bl)) ss_nil))))
      (ss_cons (ss_set 11 sc_law.nd (de_lst da_nil))
      (ss_cons (ss_for (passes_of rfl) rfl (di_seq (de_tup (da_cons de_int (da_cons de_int da_nil)))) (dg_name 9 sc_law.nd) (ss_cons (ss_set 12 sc_law.nd (de_lst da_nil))
      (ss_cons (ss_for (passes_of rfl) rfl (di_range1 rfl A.b_range (da_cons (de_still (ds_callB (cs_len) rfl A.b_len (by decide +kernel) (dsa_cons (ds_nt (ds_var 5)) dsa_nil))) da_nil)) (dg_name 13 sc_law.nd) (ss_one (ss_append 12 (de_callB (CalS.d (cs_len)) rfl A.b_len (by decide +kernel) (da_cons (de_lc (own := [("one", 15)]) 0 rfl sc_law.nd (di_range1 rfl A.b_range (da_cons (de_still (ds_callB (cs_len) rfl A.b_len (by decide +kernel) (dsa_cons (ds_var 6) dsa_nil))) da_nil)) (show BlkOk N_law (defScope s_law) _ [("one", 15)] from ⟨rfl, by decide +kernel, by decide +kernel, by decide +kernel, by decide +kernel⟩) (fun _ _ _ _ _ => (dc_name 15 sc_law.nd)) (fun _ _ _ _ _ => (dts_one (dt_cmpB (bv_eq hr.units) (de_call (n := 4) (G__law_at) tk0 (hr.mono (by decide)) rfl (da_cons (de_nt (de_var 5)) (da_cons (de_var 6) (da_cons (de_var 15) (da_cons (de_var 13) da_nil)))) ((lenM_cons (lenM_cons (lenM_cons (lenM_cons lenM_nil)))).h)) (ds_var 9)))) (fun _ _ _ _ _ => de_int)) da_nil)))))
      (ss_one (ss_append 11 (de_still (ds_callB (cs_min rfl) rfl A.b_min (by decide +kernel) (dsa_cons (ds_var 12) dsa_nil))))))))
      (ss_cons (ss_set 14 sc_law.nd (de_call (n := 2) (G_manned) tk (hr.mono (by decide)) rfl (da_cons (de_nt (de_var 5)) (da_cons (de_var 6) da_nil)) ((lenM_cons (lenM_cons lenM_nil)).h)))
      (ss_cons (ss_if (dt_w (dw_or (dt_cmp (bv_ne hr.units) (de_var 14) (de_callT cd_tupl rfl A.b_tuple (by decide +kernel) (da_cons (de_var 11) da_nil))) (dw_or1 (dt_cmpB bv_isnot (de_call (n := 1) (G_is_rota) tk (hr.mono (by decide)) rfl (da_cons (de_nt (de_var 5)) da_nil) ((lenM_cons lenM_nil).h)) ds_bl)))) (ss_one (ss_ret de_bl)) ss_nil)
      (ss_cons (ss_for (passes_of rfl) rfl (di_seq (de_tup (da_cons de_int (da_cons de_int da_nil)))) (dg_name 9 sc_law.nd) (ss_one (ss_if (dt_cmp bv_gt (de_ch (ds_bin bv_mul (ds_ix (ds_var 14) (ds_bin bv_sub (ds_var 9) ds_int)) (ds_callB (cs_len) rfl A.b_len (by decide +kernel) (dsa_cons (ds_nt (ds_var 5)) dsa_nil))) (de_bin bd_rep (de_ch (ds_ix (ds_var 14) (ds_bin bv_sub (ds_var 9) ds_int)) (de_ix (de_var 14) (de_still (ds_bin bv_sub (ds_var 9) ds_int)))) (de_still (ds_callB (cs_len) rfl A.b_len (by decide +kernel) (dsa_cons (ds_nt (ds_var 5)) dsa_nil))))) (de_bin bd_rep (de_tcount (de_var 5) (de_var 9)) (de_still (ds_callB (cs_len) rfl A.b_len (by decide +kernel) (dsa_cons (ds_var 6) dsa_nil))))) (ss_one (ss_ret de_bl)) ss_nil)))
      (ss_cons (ss_if (dt_w (dw_or (dt_cmpB (bv_ne hr.units) (de_call (n := 2) (G_manned) tk (hr.mono (by decide)) rfl (da_cons (de_bin bd_cat (de_sl (de_nt (de_var 5)) (do_some ds_int) do_none) (de_sl (de_nt (de_var 5)) do_none (do_some ds_int))) (da_cons (de_var 6) da_nil)) ((lenM_cons (lenM_cons lenM_nil)).h)) (ds_var 14)) (dw_or1 (dt_cmp (bv_ne hr.units) (de_call (n := 1) (G_least_rest) tk (hr.mono (by decide)) rfl (da_cons (de_bin bd_cat (de_sl (de_nt (de_var 5)) (do_some ds_int) do_none) (de_sl (de_nt (de_var 5)) do_none (do_some ds_int))) da_nil) ((lenM_cons lenM_nil).h)) (de_call (n := 1) (G_least_rest) tk (hr.mono (by decide)) rfl (da_cons (de_nt (de_var 5)) da_nil) ((lenM_cons lenM_nil).h)))))) (ss_one (ss_ret de_bl)) ss_nil)
      (ss_one (ss_if (dt_not (dt_val (de_callI (i := 1) (n := 0) (G__law_refused_right) tk (hr.mono (by decide)) rfl da_nil (lenM_nil.h)))) (ss_one (ss_ret de_bl)) ss_nil))))))))))))))
      (ss_one (ss_ret de_bl))))))))
end
section
abbrev N__law_word : List Str := ["call", "word", "e", "flags"]
theorem sc__law_word : FnScope N__law_word ["call"] (defScope s__law_word) := ⟨rfl, rfl, rfl, by decide +kernel, rfl, by decide +kernel, by decide +kernel⟩
def suiteS : List Stmt := match defBody s__law_word with | [_, .Try _ [.ExceptHandler _ _ b _] _ _ _, _] => b | _ => []
variable {P : Program} {w : World} {K : PySem.W.Frag} {mg : Str → Option Value} {base : Heap} {T : List (Addr × Str)}
theorem suite_word {A : Around} {stack : List Env} {g : Addr} {cdg : Value} {s : Shared} {H : Hp} {aa : Addr} {oe : Obj} {pn : List (Addr × Obj)} {D : Addr} {b_NoCrew b_NoCrews b_NoDay b_NoKind b_NoRest b_NoRota b_NoWatch b_ValueError : Bool} {C_NoCrew C_NoCrews C_NoDay C_NoKind C_NoRest C_NoRota C_NoWatch : Addr}
    (hr : Room 0 (A.deeper (envOfC "_law_word" (defScope s__law_word) s.heap.objs.size g cdg))) (EC : ExcC K D) (hz : Zc (.ref D) none oe) (hf : ∃ vs, oe.data = .fields vs) (hisi : mg "isinstance" = none) (h_ValueError : mg "ValueError" = none)
    (g_NoCrew : mg "NoCrew" = some (.ref C_NoCrew)) (kt_NoCrew : PySem.W.kitOne K (.ref D) (.ref C_NoCrew) = some b_NoCrew) (g_NoCrews : mg "NoCrews" = some (.ref C_NoCrews)) (kt_NoCrews : PySem.W.kitOne K (.ref D) (.ref C_NoCrews) = some b_NoCrews) (g_NoDay : mg "NoDay" = some (.ref C_NoDay)) (kt_NoDay : PySem.W.kitOne K (.ref D) (.ref C_NoDay) = some b_NoDay) (g_NoKind : mg "NoKind" = some (.ref C_NoKind)) (kt_NoKind : PySem.W.kitOne K (.ref D) (.ref C_NoKind) = some b_NoKind) (g_NoRest : mg "NoRest" = some (.ref C_NoRest)) (kt_NoRest : PySem.W.kitOne K (.ref D) (.ref C_NoRest) = some b_NoRest) (g_NoRota : mg "NoRota" = some (.ref C_NoRota)) (kt_NoRota : PySem.W.kitOne K (.ref D) (.ref C_NoRota) = some b_NoRota) (g_NoWatch : mg "NoWatch" = some (.ref C_NoWatch)) (kt_NoWatch : PySem.W.kitOne K (.ref D) (.ref C_NoWatch) = some b_NoWatch) (kt_ValueError : PySem.W.kitOne K (.ref D) (.type "ValueError") = some b_ValueError) :
    SSs ((cxOf C8.CX0 P w K mg base N__law_word "_law_word" (defScope s__law_word) g cdg A stack s H C8.E0).nox.suite aa ((aa, oe) :: pn)) T (fun _ _ => False) false suiteS (fsuite aa b_NoCrew b_NoCrews b_NoDay b_NoKind b_NoRest b_NoRota b_NoWatch b_ValueError) :=
  (ss_cons (ss_set 3 sc__law_word.nd (de_lst (da_cons (de_still (ds_isE 2 EC hz hf (pe_glob (v := .ref C_NoCrew) rfl g_NoCrew rfl) (fun u r => r) kt_NoCrew rfl hisi)) (da_cons (de_still (ds_isE 2 EC hz hf (pe_glob (v := .ref C_NoCrews) rfl g_NoCrews rfl) (fun u r => r) kt_NoCrews rfl hisi)) (da_cons (de_still (ds_isE 2 EC hz hf (pe_glob (v := .ref C_NoDay) rfl g_NoDay rfl) (fun u r => r) kt_NoDay rfl hisi)) (da_cons (de_still (ds_isE 2 EC hz hf (pe_glob (v := .ref C_NoKind) rfl g_NoKind rfl) (fun u r => r) kt_NoKind rfl hisi)) da_nil))))))
      (ss_cons (ss_set 3 sc__law_word.nd (de_bin bd_cat (de_var 3) (de_lst (da_cons (de_still (ds_isE 2 EC hz hf (pe_glob (v := .ref C_NoRest) rfl g_NoRest rfl) (fun u r => r) kt_NoRest rfl hisi)) (da_cons (de_still (ds_isE 2 EC hz hf (pe_glob (v := .ref C_NoRota) rfl g_NoRota rfl) (fun u r => r) kt_NoRota rfl hisi)) (da_cons (de_still (ds_isE 2 EC hz hf (pe_glob (v := .ref C_NoWatch) rfl g_NoWatch rfl) (fun u r => r) kt_NoWatch rfl hisi)) da_nil))))))
      (ss_cons (ss_set 1 sc__law_word.nd de_str)
      (ss_one (ss_if (dt_w (dw_and (dt_cmpB (bv_eq hr.units) (de_count (de_var 3) de_bl) ds_int) (dw_and1 (dt_valS (ds_isE 2 EC hz hf (pe_bltn (v := .ty "ValueError") rfl h_ValueError (by decide +kernel) rfl) (fun u r => r) kt_ValueError rfl hisi))))) (ss_one (ss_set 1 sc__law_word.nd (de_ix (de_lst (da_cons de_str (da_cons de_str (da_cons de_str (da_cons de_str (da_cons de_str (da_cons de_str (da_cons de_str da_nil)))))))) (de_index (de_var 3) de_bl)))) ss_nil)))))
theorem wd_mk {CE C_NoCrew C_NoCrews C_NoDay C_NoKind C_NoRest C_NoRota C_NoWatch : Addr} (hd : ∃ f fd, mg "_law_word" = some (.ref f) ∧ L2.Fun K "_law_word" "_law_word" s__law_word f fd ∧ L2.Binds K fd ["call"] []) (gE : mg "EmberError" = some (.ref CE)) (hisi : mg "isinstance" = none) (h_ValueError : mg "ValueError" = none)
    (x_NoCrew : EcX K mg "NoCrew" C_NoCrew CE) (x_NoCrews : EcX K mg "NoCrews" C_NoCrews CE) (x_NoDay : EcX K mg "NoDay" C_NoDay CE) (x_NoKind : EcX K mg "NoKind" C_NoKind CE) (x_NoRest : EcX K mg "NoRest" C_NoRest CE) (x_NoRota : EcX K mg "NoRota" C_NoRota CE) (x_NoWatch : EcX K mg "NoWatch" C_NoWatch CE)
    (n_NoCrew_NoCrews : PySem.W.subIn K (.ref C_NoCrew) (.ref C_NoCrews) = some false) (n_NoCrew_NoDay : PySem.W.subIn K (.ref C_NoCrew) (.ref C_NoDay) = some false) (n_NoCrew_NoKind : PySem.W.subIn K (.ref C_NoCrew) (.ref C_NoKind) = some false) (n_NoCrew_NoRest : PySem.W.subIn K (.ref C_NoCrew) (.ref C_NoRest) = some false) (n_NoCrew_NoRota : PySem.W.subIn K (.ref C_NoCrew) (.ref C_NoRota) = some false) (n_NoCrew_NoWatch : PySem.W.subIn K (.ref C_NoCrew) (.ref C_NoWatch) = some false) (n_NoCrews_NoCrew : PySem.W.subIn K (.ref C_NoCrews) (.ref C_NoCrew) = some false) (n_NoCrews_NoDay : PySem.W.subIn K (.ref C_NoCrews) (.ref C_NoDay) = some false) (n_NoCrews_NoKind : PySem.W.subIn K (.ref C_NoCrews) (.ref C_NoKind) = some false) (n_NoCrews_NoRest : PySem.W.subIn K (.ref C_NoCrews) (.ref C_NoRest) = some false) (n_NoCrews_NoRota : PySem.W.subIn K (.ref C_NoCrews) (.ref C_NoRota) = some false) (n_NoCrews_NoWatch : PySem.W.subIn K (.ref C_NoCrews) (.ref C_NoWatch) = some false) (n_NoDay_NoCrew : PySem.W.subIn K (.ref C_NoDay) (.ref C_NoCrew) = some false) (n_NoDay_NoCrews : PySem.W.subIn K (.ref C_NoDay) (.ref C_NoCrews) = some false) (n_NoDay_NoKind : PySem.W.subIn K (.ref C_NoDay) (.ref C_NoKind) = some false) (n_NoDay_NoRest : PySem.W.subIn K (.ref C_NoDay) (.ref C_NoRest) = some false) (n_NoDay_NoRota : PySem.W.subIn K (.ref C_NoDay) (.ref C_NoRota) = some false) (n_NoDay_NoWatch : PySem.W.subIn K (.ref C_NoDay) (.ref C_NoWatch) = some false) (n_NoKind_NoCrew : PySem.W.subIn K (.ref C_NoKind) (.ref C_NoCrew) = some false) (n_NoKind_NoCrews : PySem.W.subIn K (.ref C_NoKind) (.ref C_NoCrews) = some false) (n_NoKind_NoDay : PySem.W.subIn K (.ref C_NoKind) (.ref C_NoDay) = some false) (n_NoKind_NoRest : PySem.W.subIn K (.ref C_NoKind) (.ref C_NoRest) = some false) (n_NoKind_NoRota : PySem.W.subIn K (.ref C_NoKind) (.ref C_NoRota) = some false) (n_NoKind_NoWatch : PySem.W.subIn K (.ref C_NoKind) (.ref C_NoWatch) = some false) (n_NoRest_NoCrew : PySem.W.subIn K (.ref C_NoRest) (.ref C_NoCrew) = some false) (n_NoRest_NoCrews : PySem.W.subIn K (.ref C_NoRest) (.ref C_NoCrews) = some false) (n_NoRest_NoDay : PySem.W.subIn K (.ref C_NoRest) (.ref C_NoDay) = some false) (n_NoRest_NoKind : PySem.W.subIn K (.ref C_NoRest) (.ref C_NoKind) = some false) (n_NoRest_NoRota : PySem.W.subIn K (.ref C_NoRest) (.ref C_NoRota) = some false) (n_NoRest_NoWatch : PySem.W.subIn K (.ref C_NoRest) (.ref C_NoWatch) = some false) (n_NoRota_NoCrew : PySem.W.subIn K (.ref C_NoRota) (.ref C_NoCrew) = some false) (n_NoRota_NoCrews : PySem.W.subIn K (.ref C_NoRota) (.ref C_NoCrews) = some false) (n_NoRota_NoDay : PySem.W.subIn K (.ref C_NoRota) (.ref C_NoDay) = some false) (n_NoRota_NoKind : PySem.W.subIn K (.ref C_NoRota) (.ref C_NoKind) = some false) (n_NoRota_NoRest : PySem.W.subIn K (.ref C_NoRota) (.ref C_NoRest) = some false) (n_NoRota_NoWatch : PySem.W.subIn K (.ref C_NoRota) (.ref C_NoWatch) = some false) (n_NoWatch_NoCrew : PySem.W.subIn K (.ref C_NoWatch) (.ref C_NoCrew) = some false) (n_NoWatch_NoCrews : PySem.W.subIn K (.ref C_NoWatch) (.ref C_NoCrews) = some false) (n_NoWatch_NoDay : PySem.W.subIn K (.ref C_NoWatch) (.ref C_NoDay) = some false) (n_NoWatch_NoKind : PySem.W.subIn K (.ref C_NoWatch) (.ref C_NoKind) = some false) (n_NoWatch_NoRest : PySem.W.subIn K (.ref C_NoWatch) (.ref C_NoRest) = some false) (n_NoWatch_NoRota : PySem.W.subIn K (.ref C_NoWatch) (.ref C_NoRota) = some false)
    (v_NoCrew_ValueError : PySem.W.subIn K (.ref C_NoCrew) (.type "ValueError") = some true) (v_NoCrews_ValueError : PySem.W.subIn K (.ref C_NoCrews) (.type "ValueError") = some true) (v_NoDay_ValueError : PySem.W.subIn K (.ref C_NoDay) (.type "ValueError") = some true) (v_NoKind_ValueError : PySem.W.subIn K (.ref C_NoKind) (.type "ValueError") = some true) (v_NoRest_ValueError : PySem.W.subIn K (.ref C_NoRest) (.type "ValueError") = some true) (v_NoRota_ValueError : PySem.W.subIn K (.ref C_NoRota) (.type "ValueError") = some true) (v_NoWatch_ValueError : PySem.W.subIn K (.ref C_NoWatch) (.type "ValueError") = some true) : Wd P w K mg base T "_law_word" wf "let" := by
  obtain ⟨f, fd, hm, F, hb⟩ := hd
  obtain ⟨oc, od, kV, doc, pm, an, cdv, ct, osl, rfl, lk, hcd⟩ := F.ex
  refine ⟨"call", f, defArgs s__law_word, defBody s__law_word, defScope s__law_word, .none, kV, doc, pm, cdv, ct, oc, an, od, osl, N__law_word, hm, F.kp, lk, hcd, hb, sc__law_word, rfl, .inl rfl, by decide, by decide, fun X h1 h2 h3 h4 h5 hr q => ?_⟩
  subst h1 h2 h3 h4 h5
  refine word_gives (iw := 1) (ie := 2) sc__law_word.nd rfl rfl rfl (by decide) (by decide) rfl rfl rfl gE (by decide) (by decide) (by decide) (fun x' C s' h1 h2 => ?_) (fun s H aa oe pn C x' s' h1 h2 hz hf => ?_)
  · rcases wf_cases h2 with ⟨rfl, rfl⟩ | ⟨rfl, rfl⟩ | ⟨rfl, rfl⟩ | ⟨rfl, rfl⟩ | ⟨rfl, rfl⟩ | ⟨rfl, rfl⟩ | ⟨rfl, rfl⟩
    · cases h1.symm.trans x_NoCrew.g; exact x_NoCrew.em
    · cases h1.symm.trans x_NoCrews.g; exact x_NoCrews.em
    · cases h1.symm.trans x_NoDay.g; exact x_NoDay.em
    · cases h1.symm.trans x_NoKind.g; exact x_NoKind.em
    · cases h1.symm.trans x_NoRest.g; exact x_NoRest.em
    · cases h1.symm.trans x_NoRota.g; exact x_NoRota.em
    · cases h1.symm.trans x_NoWatch.g; exact x_NoWatch.em
  · rcases wf_cases h2 with ⟨rfl, rfl⟩ | ⟨rfl, rfl⟩ | ⟨rfl, rfl⟩ | ⟨rfl, rfl⟩ | ⟨rfl, rfl⟩ | ⟨rfl, rfl⟩ | ⟨rfl, rfl⟩
    · cases h1.symm.trans x_NoCrew.g; exact ⟨fsuite aa true false false false false false false true, nxOf (fsuite aa true false false false false false false true ((List.replicate N__law_word.length none).set 2 (some (.adr aa, 0)))), 0, suite_word (b_NoCrew := true) (b_NoCrews := false) (b_NoDay := false) (b_NoKind := false) (b_NoRest := false) (b_NoRota := false) (b_NoWatch := false) (b_ValueError := true) (hr.deeper _) x_NoCrew.x hz hf hisi h_ValueError x_NoCrew.g kit_same x_NoCrews.g (kit_ref x_NoCrews.x.hd x_NoCrews.t x_NoCrew.s n_NoCrew_NoCrews) x_NoDay.g (kit_ref x_NoDay.x.hd x_NoDay.t x_NoCrew.s n_NoCrew_NoDay) x_NoKind.g (kit_ref x_NoKind.x.hd x_NoKind.t x_NoCrew.s n_NoCrew_NoKind) x_NoRest.g (kit_ref x_NoRest.x.hd x_NoRest.t x_NoCrew.s n_NoCrew_NoRest) x_NoRota.g (kit_ref x_NoRota.x.hd x_NoRota.t x_NoCrew.s n_NoCrew_NoRota) x_NoWatch.g (kit_ref x_NoWatch.x.hd x_NoWatch.t x_NoCrew.s n_NoCrew_NoWatch) (kit_typ (by decide +kernel) v_NoCrew_ValueError), by simp [nxOf, fsuite, seqS, setS, opM, catO, consM, nilM, stM, isES, toV, lstO, rdM, cM, ifS, andT, stT, valT, bor, methM, isLst, cntO, cntA, atoms, idxO, idxA, opS, consS, nilS, eqO_int, cS, nxS, ixO, ixS, atI, ixN, eqV, retS, List.findIdx?_cons, List.countP_cons], by simp [nxOf, fsuite, seqS, setS, opM, catO, consM, nilM, stM, isES, toV, lstO, rdM, cM, ifS, andT, stT, valT, bor, methM, isLst, cntO, cntA, atoms, idxO, idxA, opS, consS, nilS, eqO_int, cS, nxS, ixO, ixS, atI, ixN, eqV, retS, List.findIdx?_cons, List.countP_cons]⟩
    · cases h1.symm.trans x_NoCrews.g; exact ⟨fsuite aa false true false false false false false true, nxOf (fsuite aa false true false false false false false true ((List.replicate N__law_word.length none).set 2 (some (.adr aa, 0)))), 0, suite_word (b_NoCrew := false) (b_NoCrews := true) (b_NoDay := false) (b_NoKind := false) (b_NoRest := false) (b_NoRota := false) (b_NoWatch := false) (b_ValueError := true) (hr.deeper _) x_NoCrews.x hz hf hisi h_ValueError x_NoCrew.g (kit_ref x_NoCrew.x.hd x_NoCrew.t x_NoCrews.s n_NoCrews_NoCrew) x_NoCrews.g kit_same x_NoDay.g (kit_ref x_NoDay.x.hd x_NoDay.t x_NoCrews.s n_NoCrews_NoDay) x_NoKind.g (kit_ref x_NoKind.x.hd x_NoKind.t x_NoCrews.s n_NoCrews_NoKind) x_NoRest.g (kit_ref x_NoRest.x.hd x_NoRest.t x_NoCrews.s n_NoCrews_NoRest) x_NoRota.g (kit_ref x_NoRota.x.hd x_NoRota.t x_NoCrews.s n_NoCrews_NoRota) x_NoWatch.g (kit_ref x_NoWatch.x.hd x_NoWatch.t x_NoCrews.s n_NoCrews_NoWatch) (kit_typ (by decide +kernel) v_NoCrews_ValueError), by simp [nxOf, fsuite, seqS, setS, opM, catO, consM, nilM, stM, isES, toV, lstO, rdM, cM, ifS, andT, stT, valT, bor, methM, isLst, cntO, cntA, atoms, idxO, idxA, opS, consS, nilS, eqO_int, cS, nxS, ixO, ixS, atI, ixN, eqV, retS, List.findIdx?_cons, List.countP_cons], by simp [nxOf, fsuite, seqS, setS, opM, catO, consM, nilM, stM, isES, toV, lstO, rdM, cM, ifS, andT, stT, valT, bor, methM, isLst, cntO, cntA, atoms, idxO, idxA, opS, consS, nilS, eqO_int, cS, nxS, ixO, ixS, atI, ixN, eqV, retS, List.findIdx?_cons, List.countP_cons]⟩
    · cases h1.symm.trans x_NoDay.g; exact ⟨fsuite aa false false true false false false false true, nxOf (fsuite aa false false true false false false false true ((List.replicate N__law_word.length none).set 2 (some (.adr aa, 0)))), 0, suite_word (b_NoCrew := false) (b_NoCrews := false) (b_NoDay := true) (b_NoKind := false) (b_NoRest := false) (b_NoRota := false) (b_NoWatch := false) (b_ValueError := true) (hr.deeper _) x_NoDay.x hz hf hisi h_ValueError x_NoCrew.g (kit_ref x_NoCrew.x.hd x_NoCrew.t x_NoDay.s n_NoDay_NoCrew) x_NoCrews.g (kit_ref x_NoCrews.x.hd x_NoCrews.t x_NoDay.s n_NoDay_NoCrews) x_NoDay.g kit_same x_NoKind.g (kit_ref x_NoKind.x.hd x_NoKind.t x_NoDay.s n_NoDay_NoKind) x_NoRest.g (kit_ref x_NoRest.x.hd x_NoRest.t x_NoDay.s n_NoDay_NoRest) x_NoRota.g (kit_ref x_NoRota.x.hd x_NoRota.t x_NoDay.s n_NoDay_NoRota) x_NoWatch.g (kit_ref x_NoWatch.x.hd x_NoWatch.t x_NoDay.s n_NoDay_NoWatch) (kit_typ (by decide +kernel) v_NoDay_ValueError), by simp [nxOf, fsuite, seqS, setS, opM, catO, consM, nilM, stM, isES, toV, lstO, rdM, cM, ifS, andT, stT, valT, bor, methM, isLst, cntO, cntA, atoms, idxO, idxA, opS, consS, nilS, eqO_int, cS, nxS, ixO, ixS, atI, ixN, eqV, retS, List.findIdx?_cons, List.countP_cons], by simp [nxOf, fsuite, seqS, setS, opM, catO, consM, nilM, stM, isES, toV, lstO, rdM, cM, ifS, andT, stT, valT, bor, methM, isLst, cntO, cntA, atoms, idxO, idxA, opS, consS, nilS, eqO_int, cS, nxS, ixO, ixS, atI, ixN, eqV, retS, List.findIdx?_cons, List.countP_cons]⟩
    · cases h1.symm.trans x_NoKind.g; exact ⟨fsuite aa false false false true false false false true, nxOf (fsuite aa false false false true false false false true ((List.replicate N__law_word.length none).set 2 (some (.adr aa, 0)))), 0, suite_word (b_NoCrew := false) (b_NoCrews := false) (b_NoDay := false) (b_NoKind := true) (b_NoRest := false) (b_NoRota := false) (b_NoWatch := false) (b_ValueError := true) (hr.deeper _) x_NoKind.x hz hf hisi h_ValueError x_NoCrew.g (kit_ref x_NoCrew.x.hd x_NoCrew.t x_NoKind.s n_NoKind_NoCrew) x_NoCrews.g (kit_ref x_NoCrews.x.hd x_NoCrews.t x_NoKind.s n_NoKind_NoCrews) x_NoDay.g (kit_ref x_NoDay.x.hd x_NoDay.t x_NoKind.s n_NoKind_NoDay) x_NoKind.g kit_same x_NoRest.g (kit_ref x_NoRest.x.hd x_NoRest.t x_NoKind.s n_NoKind_NoRest) x_NoRota.g (kit_ref x_NoRota.x.hd x_NoRota.t x_NoKind.s n_NoKind_NoRota) x_NoWatch.g (kit_ref x_NoWatch.x.hd x_NoWatch.t x_NoKind.s n_NoKind_NoWatch) (kit_typ (by decide +kernel) v_NoKind_ValueError), by simp [nxOf, fsuite, seqS, setS, opM, catO, consM, nilM, stM, isES, toV, lstO, rdM, cM, ifS, andT, stT, valT, bor, methM, isLst, cntO, cntA, atoms, idxO, idxA, opS, consS, nilS, eqO_int, cS, nxS, ixO, ixS, atI, ixN, eqV, retS, List.findIdx?_cons, List.countP_cons], by simp [nxOf, fsuite, seqS, setS, opM, catO, consM, nilM, stM, isES, toV, lstO, rdM, cM, ifS, andT, stT, valT, bor, methM, isLst, cntO, cntA, atoms, idxO, idxA, opS, consS, nilS, eqO_int, cS, nxS, ixO, ixS, atI, ixN, eqV, retS, List.findIdx?_cons, List.countP_cons]⟩
    · cases h1.symm.trans x_NoRest.g; exact ⟨fsuite aa false false false false true false false true, nxOf (fsuite aa false false false false true false false true ((List.replicate N__law_word.length none).set 2 (some (.adr aa, 0)))), 0, suite_word (b_NoCrew := false) (b_NoCrews := false) (b_NoDay := false) (b_NoKind := false) (b_NoRest := true) (b_NoRota := false) (b_NoWatch := false) (b_ValueError := true) (hr.deeper _) x_NoRest.x hz hf hisi h_ValueError x_NoCrew.g (kit_ref x_NoCrew.x.hd x_NoCrew.t x_NoRest.s n_NoRest_NoCrew) x_NoCrews.g (kit_ref x_NoCrews.x.hd x_NoCrews.t x_NoRest.s n_NoRest_NoCrews) x_NoDay.g (kit_ref x_NoDay.x.hd x_NoDay.t x_NoRest.s n_NoRest_NoDay) x_NoKind.g (kit_ref x_NoKind.x.hd x_NoKind.t x_NoRest.s n_NoRest_NoKind) x_NoRest.g kit_same x_NoRota.g (kit_ref x_NoRota.x.hd x_NoRota.t x_NoRest.s n_NoRest_NoRota) x_NoWatch.g (kit_ref x_NoWatch.x.hd x_NoWatch.t x_NoRest.s n_NoRest_NoWatch) (kit_typ (by decide +kernel) v_NoRest_ValueError), by simp [nxOf, fsuite, seqS, setS, opM, catO, consM, nilM, stM, isES, toV, lstO, rdM, cM, ifS, andT, stT, valT, bor, methM, isLst, cntO, cntA, atoms, idxO, idxA, opS, consS, nilS, eqO_int, cS, nxS, ixO, ixS, atI, ixN, eqV, retS, List.findIdx?_cons, List.countP_cons], by simp [nxOf, fsuite, seqS, setS, opM, catO, consM, nilM, stM, isES, toV, lstO, rdM, cM, ifS, andT, stT, valT, bor, methM, isLst, cntO, cntA, atoms, idxO, idxA, opS, consS, nilS, eqO_int, cS, nxS, ixO, ixS, atI, ixN, eqV, retS, List.findIdx?_cons, List.countP_cons]⟩
    · cases h1.symm.trans x_NoRota.g; exact ⟨fsuite aa false false false false false true false true, nxOf (fsuite aa false false false false false true false true ((List.replicate N__law_word.length none).set 2 (some (.adr aa, 0)))), 0, suite_word (b_NoCrew := false) (b_NoCrews := false) (b_NoDay := false) (b_NoKind := false) (b_NoRest := false) (b_NoRota := true) (b_NoWatch := false) (b_ValueError := true) (hr.deeper _) x_NoRota.x hz hf hisi h_ValueError x_NoCrew.g (kit_ref x_NoCrew.x.hd x_NoCrew.t x_NoRota.s n_NoRota_NoCrew) x_NoCrews.g (kit_ref x_NoCrews.x.hd x_NoCrews.t x_NoRota.s n_NoRota_NoCrews) x_NoDay.g (kit_ref x_NoDay.x.hd x_NoDay.t x_NoRota.s n_NoRota_NoDay) x_NoKind.g (kit_ref x_NoKind.x.hd x_NoKind.t x_NoRota.s n_NoRota_NoKind) x_NoRest.g (kit_ref x_NoRest.x.hd x_NoRest.t x_NoRota.s n_NoRota_NoRest) x_NoRota.g kit_same x_NoWatch.g (kit_ref x_NoWatch.x.hd x_NoWatch.t x_NoRota.s n_NoRota_NoWatch) (kit_typ (by decide +kernel) v_NoRota_ValueError), by simp [nxOf, fsuite, seqS, setS, opM, catO, consM, nilM, stM, isES, toV, lstO, rdM, cM, ifS, andT, stT, valT, bor, methM, isLst, cntO, cntA, atoms, idxO, idxA, opS, consS, nilS, eqO_int, cS, nxS, ixO, ixS, atI, ixN, eqV, retS, List.findIdx?_cons, List.countP_cons], by simp [nxOf, fsuite, seqS, setS, opM, catO, consM, nilM, stM, isES, toV, lstO, rdM, cM, ifS, andT, stT, valT, bor, methM, isLst, cntO, cntA, atoms, idxO, idxA, opS, consS, nilS, eqO_int, cS, nxS, ixO, ixS, atI, ixN, eqV, retS, List.findIdx?_cons, List.countP_cons]⟩
    · cases h1.symm.trans x_NoWatch.g; exact ⟨fsuite aa false false false false false false true true, nxOf (fsuite aa false false false false false false true true ((List.replicate N__law_word.length none).set 2 (some (.adr aa, 0)))), 0, suite_word (b_NoCrew := false) (b_NoCrews := false) (b_NoDay := false) (b_NoKind := false) (b_NoRest := false) (b_NoRota := false) (b_NoWatch := true) (b_ValueError := true) (hr.deeper _) x_NoWatch.x hz hf hisi h_ValueError x_NoCrew.g (kit_ref x_NoCrew.x.hd x_NoCrew.t x_NoWatch.s n_NoWatch_NoCrew) x_NoCrews.g (kit_ref x_NoCrews.x.hd x_NoCrews.t x_NoWatch.s n_NoWatch_NoCrews) x_NoDay.g (kit_ref x_NoDay.x.hd x_NoDay.t x_NoWatch.s n_NoWatch_NoDay) x_NoKind.g (kit_ref x_NoKind.x.hd x_NoKind.t x_NoWatch.s n_NoWatch_NoKind) x_NoRest.g (kit_ref x_NoRest.x.hd x_NoRest.t x_NoWatch.s n_NoWatch_NoRest) x_NoRota.g (kit_ref x_NoRota.x.hd x_NoRota.t x_NoWatch.s n_NoWatch_NoRota) x_NoWatch.g kit_same (kit_typ (by decide +kernel) v_NoWatch_ValueError), by simp [nxOf, fsuite, seqS, setS, opM, catO, consM, nilM, stM, isES, toV, lstO, rdM, cM, ifS, andT, stT, valT, bor, methM, isLst, cntO, cntA, atoms, idxO, idxA, opS, consS, nilS, eqO_int, cS, nxS, ixO, ixS, atI, ixN, eqV, retS, List.findIdx?_cons, List.countP_cons], by simp [nxOf, fsuite, seqS, setS, opM, catO, consM, nilM, stM, isES, toV, lstO, rdM, cM, ifS, andT, stT, valT, bor, methM, isLst, cntO, cntA, atoms, idxO, idxA, opS, consS, nilS, eqO_int, cS, nxS, ixO, ixS, atI, ixN, eqV, retS, List.findIdx?_cons, List.countP_cons]⟩
end
abbrev lq__law_refused_right (c : Addr) : Str := (envOfC "_law_refused_right" (defScope s__law_refused_right) 0 0 (.ref c)).qual ++ "<lambda>"
section
variable {P : Program} {w : World} {K : PySem.W.Frag} {mg : Str → Option Value} {base : Heap} {T : List (Addr × Str)}
theorem all_ok (A : Facts P w K mg base T) {c__law_refused_right PT__law_refused_right f__law_refused_right : Addr} {fd__law_refused_right : FuncData} (TB__law_refused_right : LamX.TabB base mg c__law_refused_right PT__law_refused_right) (hmT__law_refused_right : (PT__law_refused_right, (envOfC "_law_refused_right" (defScope s__law_refused_right) 0 0 (.ref c__law_refused_right)).qual ++ "<lambda>") ∈ T) (hu__law_refused_right : ∀ p ∈ T, p.1 = PT__law_refused_right → p.2 = (envOfC "_law_refused_right" (defScope s__law_refused_right) 0 0 (.ref c__law_refused_right)).qual ++ "<lambda>") (FF__law_refused_right : FunC K "_law_refused_right" "_law_refused_right" s__law_refused_right f__law_refused_right fd__law_refused_right (.ref c__law_refused_right)) (hm__law_refused_right : mg "_law_refused_right" = some (.ref f__law_refused_right)) (hb__law_refused_right : L2.Binds K fd__law_refused_right ["hand"] []) {cd_law : Value} {f_law : Addr} {fd_law : FuncData} (FF_law : FunC K "law" "law" s_law f_law fd_law cd_law) (hm_law : mg "law" = some (.ref f_law)) (hb_law : L2.Binds K fd_law ["script"] []) :
    FnOk P w K mg base (L2.CX P w) 10 f_law fd_law ["script"] (spP K T mg 1 F_law) := by
  have G__law_draw := ok__law_draw A 
  have G__law_any := ok__law_any A (G__law_draw := G__law_draw)
  have G__law_at := ok__law_at A 
  have G__law_hand := ok__law_hand A 
  have G__law_hours := ok__law_hours A 
  have G__law_next := ok__law_next A (G__law_at := G__law_at) (G__law_hours := G__law_hours)
  have G__law_least := ok__law_least A (G__law_hours := G__law_hours) (G__law_next := G__law_next)
  have G__law_odd := ok__law_odd A (G__law_any := G__law_any)
  have G_is_sized := ok_is_sized A 
  have G_is_integer := ok_is_integer A 
  have G_is_within := ok_is_within A (G_is_integer := G_is_integer)
  have G_is_rota := ok_is_rota A (G_is_sized := G_is_sized) (G_is_within := G_is_within)
  have G_check_rota := ok_check_rota A (G_is_rota := G_is_rota)
  have G_had := ok_had A 
  have G_next_watch := ok_next_watch A (G_had := G_had)
  have G_rest_hours := ok_rest_hours A 
  have G_least_rest := ok_least_rest A (G_check_rota := G_check_rota) (G_next_watch := G_next_watch) (G_rest_hours := G_rest_hours)
  have G_check_crews := ok_check_crews A (G_check_rota := G_check_rota) (G_is_sized := G_is_sized) (G_is_within := G_is_within)
  have G_duty_lot := ok_duty_lot A (G_had := G_had)
  have G_manned := ok_manned A (G_check_crews := G_check_crews) (G_duty_lot := G_duty_lot)
  have G_check_day := ok_check_day A (G_is_within := G_is_within)
  have G_on_duty := ok_on_duty A (G_check_crews := G_check_crews) (G_check_day := G_check_day) (G_duty_lot := G_duty_lot) (G_is_within := G_is_within)
  have G_check_crew := ok_check_crew A (G_is_within := G_is_within)
  have G_watch_at := ok_watch_at A (G_check_crew := G_check_crew) (G_check_crews := G_check_crews) (G_check_day := G_check_day) (G_had := G_had)
  have G__law_refused_right := ok__law_refused_right A TB__law_refused_right hmT__law_refused_right hu__law_refused_right FF__law_refused_right hm__law_refused_right hb__law_refused_right (G__law_any := G__law_any) (G__law_odd := G__law_odd) (G_is_rota := G_is_rota) (G_least_rest := G_least_rest) (G_manned := G_manned) (G_on_duty := G_on_duty) (G_watch_at := G_watch_at)
  have G__law_rota := ok__law_rota A (G__law_any := G__law_any) (G__law_draw := G__law_draw)
  exact ok_law A  FF_law hm_law hb_law (G__law_any := G__law_any) (G__law_at := G__law_at) (G__law_draw := G__law_draw) (G__law_hand := G__law_hand) (G__law_least := G__law_least) (G__law_refused_right := G__law_refused_right) (G__law_rota := G__law_rota) (G_is_rota := G_is_rota) (G_least_rest := G_least_rest) (G_manned := G_manned) (G_on_duty := G_on_duty) (G_watch_at := G_watch_at)
end
end Em
set_option Elab.async false
set_option linter.all false
set_option maxRecDepth 100000
set_option maxHeartbeats 4000000
namespace Em
open PySem L2 PyProof.Rows
/-! ### flags of things -/
def withB (d : D) (lo hi : Int) : Bool := match d with | .int i => decide (lo ≤ i ∧ i ≤ hi) | _ => false
def szB (d : D) (lo hi : Int) : Bool := match d with | .tup xs => decide (lo ≤ (xs.length : Int) ∧ (xs.length : Int) ≤ hi) | _ => false
theorem v_is_integer {d : D} (h : noA d = true) : F_is_integer [d] = .ok (.bl (isI d), 0) := by
  cases d <;> simp [F_is_integer, runP, b_is_integer, entry, noA, isNum, isBl, isI, toV] at h ⊢
theorem v_is_within {d : D} (h : noA d = true) (lo hi : Int) : F_is_within [d, .int lo, .int hi] = .ok (.bl (withB d lo hi), 0) := by
  cases d with
  | int i =>
    have e : chS leO leO (vS 1) (vS 0) (vS 2) [some (.int i, 0), some (.int lo, 0), some (.int hi, 0)] = some (.bl (decide (lo ≤ i ∧ i ≤ hi))) := chS_le rfl rfl rfl
    simp [F_is_within, runP, b_is_within, entry, v_is_integer h, isI, e, toV, withB]
  | adr a => cases h
  | ntp a => cases h
  | _ => simp [F_is_within, runP, b_is_within, entry, v_is_integer h, isI, toV, withB]
theorem v_is_sized {d : D} (h : noA d = true) (lo hi : Int) : F_is_sized [d, .int lo, .int hi] = .ok (.bl (szB d lo hi), 0) := by
  cases d with
  | tup xs =>
    have e : chS leO leO (vS 1) (opS lenO (consS (vS 0) nilS)) (vS 2) [some (.tup xs, 0), some (.int lo, 0), some (.int hi, 0)] = some (.bl (decide (lo ≤ (xs.length : Int) ∧ (xs.length : Int) ≤ hi))) := chS_le rfl rfl rfl
    simp [F_is_sized, runP, b_is_sized, entry, isTp, e, toV, szB]
  | adr a => cases h
  | ntp a => cases h
  | _ => simp [F_is_sized, runP, b_is_sized, entry, isTp, toV, szB]
/-- all of a tuple within -/
def allW (xs : List D) (lo hi : Int) : Bool := xs.all fun x => withB x lo hi
def rotaB (d : D) : Bool := szB d 1 28 && (match d with | .tup xs => allW xs 0 2 | _ => false)
def okD (d : D) : Bool := noA d && (match d with | .tup xs => xs.all noA && decide (xs.length ≤ 1000000) | _ => true)
theorem all_bools (xs : List D) (f : D → Bool) : allO [.lst (xs.map fun x => .bl (f x))] = some (.bl (xs.all f)) := by
  show (boolsD (xs.map fun x => .bl (f x))).map (fun bs => D.bl (bs.all id)) = _
  rw [boolsD_map]
  simp [List.all_map]
theorem v_is_rota {d : D} (h : okD d = true) : F_is_rota [d] = .ok (.bl (rotaB d), 0) := by
  have h0 : noA d = true := by unfold okD at h; simp at h; exact h.1
  cases hs : szB d 1 28 with
  | false => simp [F_is_rota, runP, b_is_rota, entry, v_is_sized h0, hs, rotaB]
  | true =>
    cases d with
    | tup xs =>
      have hx : (∀ x ∈ xs, noA x = true) ∧ xs.length ≤ 1000000 := by
        unfold okD at h
        simp at h
        exact h.2
      have hc : compM (seqM (rdM 0)) (tgN 1) yesM (callM F_is_within (consM (rdM 1) (consM (cM k_RESTING) (consM (cM k_NIGHT_WATCH) nilM)))) [1] 0 [some (.tup xs, 0), none] = .ok (.lst (xs.map fun x => .bl (withB x 0 2)), 1) [some (.tup xs, 0), none] := by
        have := compM_map (fi := seqM (rdM 0)) (t := tgN 1) (te := callM F_is_within (consM (rdM 1) (consM (cM k_RESTING) (consM (cM k_NIGHT_WATCH) nilM)))) (vs := [1]) (ρ := [some (.tup xs, 0), none]) (ρ1 := [some (.tup xs, 0), none]) (ds := xs) (fun x => .bl (withB x 0 2)) (by simp) hx.2 (by simp [ownOk]) fun x m => by
          exact ⟨[some (.tup xs, 0), some (x, 0)], by simp [tgN, wipeE], 0, [some (.tup xs, 0), some (x, 0)], by simp [k_RESTING, k_NIGHT_WATCH, v_is_within (hx.1 x m)], by simp [wipeE]⟩
        simpa [restE, wipeE] using this
      simp [F_is_rota, runP, b_is_rota, entry, v_is_sized h0, hs, rotaB, hc, liftO, all_bools, allW]
    | _ => simp [szB] at hs
theorem v_check_rota {d : D} (h : okD d = true) : F_check_rota [d] = if rotaB d then .ok (.non, 0) else .ex "NoRota" := by
  cases hb : rotaB d <;> simp [F_check_rota, runP, b_check_rota, entry, v_is_rota h, hb]
/-- crews over a rota of n days -/
def crewsB (c : D) (n : Int) : Bool := szB c 1 8 && (match c with | .tup xs => allW xs 0 (n - 1) | _ => false)
theorem v_check_crews {rs : List D} {c : D} (h : okD (.tup rs) = true) (hr : rotaB (.tup rs) = true) (hc : okD c = true) : F_check_crews [.tup rs, c] = if crewsB c rs.length then .ok (.non, 0) else .ex "NoCrews" := by
  have h0 : noA c = true := by unfold okD at hc; simp at hc; exact hc.1
  cases hs : szB c 1 8 with
  | false => simp [F_check_crews, runP, b_check_crews, entry, v_check_rota h, hr, v_is_sized h0, hs, crewsB, k_MOST_CREWS]
  | true =>
    cases c with
    | tup xs =>
      have hx : (∀ x ∈ xs, noA x = true) ∧ xs.length ≤ 1000000 := by
        unfold okD at hc
        simp at hc
        exact hc.2
      have hcm : compM (seqM (rdM 1)) (tgN 2) yesM (callM F_is_within (consM (rdM 2) (consM (cM (.int 0)) (consM (stM (opS subO (consS (opS lenO (consS (vS 0) nilS)) (consS (cS (.int 1)) nilS)))) nilM)))) [2] 0 [some (.tup rs, 0), some (.tup xs, 0), none] = .ok (.lst (xs.map fun x => .bl (withB x 0 (rs.length - 1))), 1) [some (.tup rs, 0), some (.tup xs, 0), none] := by
        have := compM_map (fi := seqM (rdM 1)) (t := tgN 2) (te := callM F_is_within (consM (rdM 2) (consM (cM (.int 0)) (consM (stM (opS subO (consS (opS lenO (consS (vS 0) nilS)) (consS (cS (.int 1)) nilS)))) nilM)))) (vs := [2]) (ρ := [some (.tup rs, 0), some (.tup xs, 0), none]) (ρ1 := [some (.tup rs, 0), some (.tup xs, 0), none]) (ds := xs) (fun x => .bl (withB x 0 (rs.length - 1))) (by simp) hx.2 (by simp [ownOk]) fun x m => by
          exact ⟨[some (.tup rs, 0), some (.tup xs, 0), some (x, 0)], by simp [tgN, wipeE], 0, [some (.tup rs, 0), some (.tup xs, 0), some (x, 0)], by simp [lenO, subO, toV, v_is_within (hx.1 x m)], by simp [wipeE]⟩
        simpa [restE, wipeE] using this
      cases ha : allW xs 0 (rs.length - 1) with
      | true =>
        have ha' : (xs.all fun x => withB x 0 (rs.length - 1)) = true := ha
        simp [F_check_crews, runP, b_check_crews, entry, v_check_rota h, hr, v_is_sized h0, hs, crewsB, k_MOST_CREWS, hcm, liftO, all_bools, ha, ha', -List.all_eq_true]
      | false =>
        have ha' : (xs.all fun x => withB x 0 (rs.length - 1)) = false := ha
        simp [F_check_crews, runP, b_check_crews, entry, v_check_rota h, hr, v_is_sized h0, hs, crewsB, k_MOST_CREWS, hcm, liftO, all_bools, ha, ha', -List.all_eq_true, -List.all_eq_false]
    | _ => simp [szB] at hs
theorem v_check_crews_no {r c : D} (h : okD r = true) (hr : rotaB r = false) : F_check_crews [r, c] = .ex "NoRota" := by
  simp [F_check_crews, runP, b_check_crews, entry, v_check_rota h, hr]
theorem v_check_crew {cs : List D} {d : D} (h : noA d = true) : F_check_crew [.tup cs, d] = if withB d 0 (cs.length - 1) then .ok (.non, 0) else .ex "NoCrew" := by
  cases hb : withB d 0 (cs.length - 1) <;> simp [F_check_crew, runP, b_check_crew, entry, lenO, subO, toV, v_is_within h, hb]
theorem v_check_day {d : D} (h : noA d = true) : F_check_day [d] = if withB d 0 1000000 then .ok (.non, 0) else .ex "NoDay" := by
  cases hb : withB d 0 1000000 <;> simp [F_check_day, runP, b_check_day, entry, k_MOST_DAY, v_is_within h, hb]
end Em
set_option Elab.async false
set_option linter.all false
set_option maxRecDepth 100000
set_option maxHeartbeats 4000000
namespace Em
open PySem L2 PyProof.Rows
def T (rs : List Int) : D := .tup (rs.map .int)
def gt (xs : List Int) (i : Nat) : Int := xs.getD i 0
def at_ (rs : List Int) (z : Int) : Int := gt rs (z % (rs.length : Int)).toNat
theorem atI_at {rs : List Int} {i : Int} (h0 : 0 ≤ i) (h1 : i < rs.length) : atI (rs.map D.int) i = some (.int (gt rs i.toNat)) := by
  rw [atI_nat h0 (by simpa using h1), List.getElem?_map]
  have : i.toNat < rs.length := by omega
  rw [List.getElem?_eq_getElem this]
  simp [gt, List.getD, List.getElem?_eq_getElem this]
theorem len_posN {rs : List Int} (h : rs ≠ []) : 0 < rs.length := List.length_pos_iff.mpr h
theorem len_pos {rs : List Int} (h : rs ≠ []) : (0 : Int) < rs.length := by
  have := List.length_pos_iff.mpr h; omega
theorem atI_mod {rs : List Int} (h : rs ≠ []) (z : Int) : atI (rs.map D.int) (z % (rs.length : Int)) = some (.int (at_ rs z)) := by
  have := len_pos h
  exact atI_at (Int.emod_nonneg _ (by omega)) (Int.emod_lt_of_pos _ this)
theorem v_had {rs : List Int} (h : rs ≠ []) (c d : Int) : F_had [T rs, .int c, .int d] = .ok (.int (at_ rs (c + d)), 0) := by
  have hp := len_posN h
  have hm := atI_mod h (c + d)
  simp [F_had, runP, b_had, entry, T, addO, lenO, modO, hp, ixS, hm, toV]
theorem v_law_at {rs cs : List Int} (h : rs ≠ []) {k : Int} (h0 : 0 ≤ k) (h1 : k < cs.length) (d : Int) : F__law_at [T rs, T cs, .int k, .int d] = .ok (.int (at_ rs (gt cs k.toNat + d)), 0) := by
  have hp := len_posN h
  have hm := atI_mod h (gt cs k.toNat + d)
  have hk := atI_at h0 h1
  simp [F__law_at, runP, b__law_at, entry, T, addO, lenO, modO, intO, hp, ixS, hk, hm, toV]
structure RotaV (rs : List Int) : Prop where
  l0 : 1 ≤ rs.length
  l1 : rs.length ≤ 28
  v : ∀ r ∈ rs, 0 ≤ r ∧ r ≤ 2
structure CrewV (cs : List Int) (n : Nat) : Prop where
  l0 : 1 ≤ cs.length
  l1 : cs.length ≤ 8
  v : ∀ r ∈ cs, 0 ≤ r ∧ r ≤ (n : Int) - 1
theorem RotaV.ne {rs : List Int} (h : RotaV rs) : rs ≠ [] := by
  intro e; have := h.l0; rw [e] at this; simp at this
theorem okD_T {rs : List Int} (h : rs.length ≤ 1000000) : okD (T rs) = true := by
  unfold okD T
  simp [noA, h]
theorem rotaB_T {rs : List Int} (h : RotaV rs) : rotaB (T rs) = true := by
  have h0 := h.l0; have h1 := h.l1
  unfold rotaB T szB allW
  simp [withB]
  exact ⟨⟨by omega, by omega⟩, fun r hr => h.v r hr⟩
theorem crewB_T {cs : List Int} {n : Nat} (h : CrewV cs n) : crewsB (T cs) n = true := by
  have h0 := h.l0; have h1 := h.l1
  unfold crewsB T szB allW
  simp [withB]
  exact ⟨⟨by omega, by omega⟩, fun r hr => h.v r hr⟩
theorem v_cc {rs cs : List Int} (h : RotaV rs) (hc : CrewV cs rs.length) : F_check_crews [T rs, T cs] = .ok (.non, 0) := by
  have h1 := h.l1; have h2 := hc.l1
  have := v_check_crews (rs := rs.map .int) (c := T cs) (okD_T (rs := rs) (by omega)) (rotaB_T h) (okD_T (by omega))
  rw [show crewsB (T cs) ((rs.map D.int).length : Int) = true from by rw [List.length_map]; exact crewB_T hc] at this
  simp only [if_true] at this
  exact this
theorem withB_int {i lo hi : Int} (h : lo ≤ i ∧ i ≤ hi) : withB (.int i) lo hi = true := by simp [withB, h]
theorem v_watch_at {rs cs : List Int} (h : RotaV rs) (hc : CrewV cs rs.length) {k d : Int} (h0 : 0 ≤ k) (h1 : k < cs.length) (hd : 0 ≤ d ∧ d ≤ 1000000) : F_watch_at [T rs, T cs, .int k, .int d] = .ok (.int (at_ rs (gt cs k.toNat + d)), 0) := by
  have e1 := v_check_crew (cs := cs.map .int) (d := .int k) rfl
  rw [List.length_map, withB_int ⟨h0, by omega⟩] at e1
  have e1' : F_check_crew [T cs, .int k] = .ok (.non, 0) := e1
  have e2 := v_check_day (d := .int d) rfl
  rw [withB_int hd] at e2
  have hk := atI_at h0 h1
  have hk' : ixS [T cs, .int k] = some (.int (gt cs k.toNat)) := hk
  simp [F_watch_at, runP, b_watch_at, entry, v_cc h hc, e1', e2, hk', toV, v_had h.ne]
def E (cs : List Int) : List (Int × Int) := (List.range cs.length).map fun (i : Nat) => ((i : Int), gt cs i)
def pairD (p : Int × Int) : D := .tup [.int p.1, .int p.2]
theorem enum_T (cs : List Int) (k : Nat) : enumO [(T cs, k)] = some ((E cs).map pairD) := by
  show some _ = some _
  congr 1
  apply List.ext_getElem?
  intro i
  rw [List.getElem?_mapIdx, List.getElem?_map, List.getElem?_map]
  unfold E
  rw [List.getElem?_map]
  by_cases hi : i < cs.length
  · rw [List.getElem?_eq_getElem hi, List.getElem?_eq_getElem (by simpa using hi)]
    simp [pairD, gt, List.getD, List.getElem?_eq_getElem hi]
  · rw [List.getElem?_eq_none (by omega), List.getElem?_eq_none (by simp; omega)]
    rfl
def duty (rs cs : List Int) (day kind : Int) : List Int := ((List.range cs.length).filter fun i => decide (at_ rs (gt cs i + day) = kind)).map fun (i : Nat) => (i : Int)
theorem filter_E (cs : List Int) (q : Int → Bool) : (((E cs).map pairD).filter fun d => match d with | .tup [_, .int c] => q c | _ => false).map (fun d => match d with | .tup [x, _] => x | _ => .non) = (((List.range cs.length).filter fun i => q (gt cs i)).map fun (i : Nat) => (i : Int)).map D.int := by
  unfold E
  rw [List.map_map, List.filter_map, List.map_map, List.map_map]
  rfl
theorem v_duty_lot {rs cs : List Int} (h : rs ≠ []) (hl : cs.length ≤ 1000000) (day kind : Int) : F_duty_lot [T rs, T cs, .int day, .int kind] = .ok (T (duty rs cs day kind), 0) := by
  have hc := compM_pure (fi := opI enumO (consM (rdM 1) nilM)) (t := tgT [tgN 4, tgN 5]) (tt := valT (bor (consM (callM F_had (consM (rdM 0) (consM (rdM 5) (consM (rdM 2) nilM)))) nilM) (vS 3) eqO)) (te := rdM 4) (vs := [4, 5])
    (ρ := [some (T rs, 0), some (T cs, 0), some (.int day, 0), some (.int kind, 0), none, none]) (ρ1 := [some (T rs, 0), some (T cs, 0), some (.int day, 0), some (.int kind, 0), none, none]) (ds := (E cs).map pairD)
    (fun d => match d with | .tup [_, .int c] => decide (at_ rs (c + day) = kind) | _ => false) (fun d => match d with | .tup [x, _] => x | _ => .non) (by simp [enum_T]) (by simpa [E] using hl) (by simp [ownOk]) (by
      intro d hd
      obtain ⟨p, _, rfl⟩ := List.mem_map.mp hd
      refine ⟨[some (T rs, 0), some (T cs, 0), some (.int day, 0), some (.int kind, 0), some (.int p.1, 0), some (.int p.2, 0)], [some (T rs, 0), some (T cs, 0), some (.int day, 0), some (.int kind, 0), some (.int p.1, 0), some (.int p.2, 0)], by simp [pairD, tgT, tgs, tgN, wipeE], by simp [v_had h, eqO_int, pairD], fun _ => ⟨0, [some (T rs, 0), some (T cs, 0), some (.int day, 0), some (.int kind, 0), some (.int p.1, 0), some (.int p.2, 0)], by simp [pairD], by simp [wipeE]⟩, fun _ => by simp [wipeE]⟩)
  rw [filter_E cs fun c => decide (at_ rs (c + day) = kind)] at hc
  simp only [F_duty_lot, runP, b_duty_lot, entry]
  simp [hc, tuplO]
  simp only [T, duty, List.map_map]
end Em
set_option Elab.async false
set_option linter.all false
set_option maxRecDepth 100000
set_option maxHeartbeats 4000000
namespace Em
open PySem L2 PyProof.Rows
/-! ### the least of some -/
def minL : List Int → Int | [] => 0 | n :: r => r.foldl min n
theorem minO_L {ns : List Int} (h : ns ≠ []) : minO [.lst (ns.map .int)] = some (.int (minL ns)) := by
  cases ns with
  | nil => exact absurd rfl h
  | cons n r =>
    show (match intsD ((n :: r).map D.int) with | some (n :: ns) => some (D.int (ns.foldl min n)) | _ => none) = _
    rw [intsD_map]
    rfl
def cnt (rs cs : List Int) (day kind : Int) : Int := ((duty rs cs day kind).length : Nat)
def mn (rs cs : List Int) (kind : Int) : Int := minL ((List.range rs.length).map fun (d : Nat) => cnt rs cs (d : Int) kind)
theorem lenO_T (xs : List Int) : lenO [T xs] = some (.int (xs.length : Int)) := by simp [T, lenO]
theorem rng_map {n : Nat} (f : Int → Int) : (rngD 0 n).map (fun d => match d with | .int x => D.int (f x) | _ => .non) = ((List.range n).map fun (d : Nat) => f (d : Int)).map D.int := by
  unfold rngD
  rw [List.map_map, List.map_map]
  apply List.map_congr_left
  intro i _
  simp
theorem v_lens {rs cs : List Int} (h : rs ≠ []) (hl : cs.length ≤ 1000000) (hr : rs.length ≤ 1000000) (k2 : Nat) (kind : Int) (o : Option VD) :
    compM (seqM (rdM 2)) (tgN 5) yesM (opM (liftO lenO) (consM (callM F_duty_lot (consM (rdM 0) (consM (rdM 1) (consM (rdM 5) (consM (rdM 4) nilM))))) nilM)) [5] 0 [some (T rs, 0), some (T cs, 0), some (.lst (rngD 0 rs.length), k2), o, some (.int kind, 0), none] =
      .ok (.lst (((List.range rs.length).map fun (d : Nat) => cnt rs cs (d : Int) kind).map D.int), 1) [some (T rs, 0), some (T cs, 0), some (.lst (rngD 0 rs.length), 0), o, some (.int kind, 0), none] := by
  have := compM_map (fi := seqM (rdM 2)) (t := tgN 5) (te := opM (liftO lenO) (consM (callM F_duty_lot (consM (rdM 0) (consM (rdM 1) (consM (rdM 5) (consM (rdM 4) nilM))))) nilM)) (vs := [5]) (ρ := [some (T rs, 0), some (T cs, 0), some (.lst (rngD 0 rs.length), k2), o, some (.int kind, 0), none]) (ρ1 := [some (T rs, 0), some (T cs, 0), some (.lst (rngD 0 rs.length), 0), o, some (.int kind, 0), none]) (ds := rngD 0 rs.length)
    (fun d => match d with | .int x => D.int (cnt rs cs x kind) | _ => .non) (by simp) (by rw [rngD_len]; exact hr) (by simp [ownOk]) (by
      intro d hd
      obtain ⟨j, hj⟩ := List.getElem?_of_mem hd
      obtain ⟨_, rfl⟩ := rngD_get hj
      exact ⟨[some (T rs, 0), some (T cs, 0), some (.lst (rngD 0 rs.length), 0), o, some (.int kind, 0), some (.int (0 + j), 0)], by simp [tgN, wipeE], 0, [some (T rs, 0), some (T cs, 0), some (.lst (rngD 0 rs.length), 0), o, some (.int kind, 0), some (.int (0 + j), 0)], by simp [v_duty_lot h hl, liftO, cnt, lenO_T], by simp [wipeE]⟩)
  rw [rng_map fun x => cnt rs cs x kind] at this
  simpa only [restE, wipeE, List.set_cons_succ, List.set_cons_zero, List.getElem?_cons_succ, List.getElem?_cons_zero, Option.getD_some] using this
theorem range_ne {rs : List Int} (h : rs ≠ []) (f : Nat → Int) : (List.range rs.length).map f ≠ [] := by
  have := List.length_pos_iff.mpr h
  intro e
  have := congrArg List.length e
  simp at this
  exact h this
theorem v_manned {rs cs : List Int} (h : RotaV rs) (hc : CrewV cs rs.length) : F_manned [T rs, T cs] = .ok (.tup [.int (mn rs cs 1), .int (mn rs cs 2)], 0) := by
  have h1 := h.l1; have h2 := hc.l1
  have hL := v_lens (rs := rs) (cs := cs) h.ne (by omega) (by omega)
  have hM := fun kind : Int => minO_L (range_ne h.ne fun d : Nat => cnt rs cs (d : Int) kind)
  have e1 := lenO_T rs
  have e2 : (rs.length : Int) ≤ 1000000 := by omega
  simp [F_manned, runP, b_manned, entry, v_cc h hc, e1, rgO1, mkL, lstO, tupO, k_DAY_WATCH, k_NIGHT_WATCH, forL, tgN, e2, show (-1000000 : Int) ≤ rs.length by omega, hL, liftO, hM, mn, ixS, atI, ixN, toV, -List.map_map]
end Em
set_option Elab.async false
set_option linter.all false
set_option maxRecDepth 100000
set_option maxHeartbeats 4000000
namespace Em
open PySem L2 PyProof.Rows
/-- the first of some days with a watch -/
def nxtL (rs : List Int) (z : Int) : List Int → Option (Int × Int)
  | [] => none
  | x :: r => if at_ rs (z + x) ≠ 0 then some (x, at_ rs (z + x)) else nxtL rs z r
def bodyN : MS := seqS (setS 5 (callM F_had (consM (rdM 0) (consM (rdM 1) (consM (chM (opS addO (consS (vS 2) (consS (opS mulO (consS (vS 3) (consS (vS 4) nilS))) nilS))) (opM catO (consM (rdM 2) (consM (chM (opS mulO (consS (vS 3) (consS (vS 4) nilS))) (opM repO (consM (rdM 3) (consM (rdM 4) nilM)))) nilM)))) (nilM)))))) (
  ifS (stT (opS neO (consS (vS 5) (consS (cS k_RESTING) nilS)))) (
  retS (opM tupO (consM (rdM 4) (consM (rdM 5) (nilM))))) (
  nxS))
theorem loopN {rs : List Int} (h : rs ≠ []) (c p : Int) : ∀ (xs : List Int) (o4 o5 : Option VD), ∃ ρ', forL (tgN 4) bodyN (xs.map .int) [some (T rs, 0), some (.int c, 0), some (.int p, 0), some (.int 1, 0), o4, o5] =
    (match nxtL rs (c + p) xs with | some (d, k) => .rt (.tup [.int d, .int k], 0) ρ' | none => .nx ρ')
  | [], o4, o5 => ⟨_, rfl⟩
  | x :: r, o4, o5 => by
    have e : c + (p + x) = c + p + x := by omega
    by_cases hz : at_ rs (c + p + x) = 0
    · obtain ⟨ρ', ih⟩ := loopN h c p r (some (.int x, 0)) (some (.int 0, 0))
      refine ⟨ρ', ?_⟩
      have hb : bodyN [some (T rs, 0), some (.int c, 0), some (.int p, 0), some (.int 1, 0), some (.int x, 0), o5] = .nx [some (T rs, 0), some (.int c, 0), some (.int p, 0), some (.int 1, 0), some (.int x, 0), some (.int 0, 0)] := by
        simp [bodyN, addO, mulO, toV, v_had h, e, hz, neO_int, k_RESTING]
      simp [forL, tgN, hb, hz, nxtL, ih]
    · refine ⟨[some (T rs, 0), some (.int c, 0), some (.int p, 0), some (.int 1, 0), some (.int x, 0), some (.int (at_ rs (c + p + x)), 0)], ?_⟩
      have hb : bodyN [some (T rs, 0), some (.int c, 0), some (.int p, 0), some (.int 1, 0), some (.int x, 0), o5] = .rt (.tup [.int x, .int (at_ rs (c + p + x))], 0) [some (T rs, 0), some (.int c, 0), some (.int p, 0), some (.int 1, 0), some (.int x, 0), some (.int (at_ rs (c + p + x)), 0)] := by
        simp [bodyN, addO, mulO, toV, v_had h, e, hz, neO_int, k_RESTING, tupO]
      simp [forL, tgN, hb, hz, nxtL]
def days (n : Nat) : List Int := (List.range n).map fun (i : Nat) => 1 + (i : Int)
theorem rng_days (n : Nat) : rngD 1 n = (days n).map .int := by
  unfold rngD days
  rw [List.map_map]; rfl
theorem v_next_watch {rs : List Int} (h : RotaV rs) (c p : Int) : F_next_watch [T rs, .int c, .int p, .int 1] = .ok (match nxtL rs (c + p) (days rs.length) with | some (d, k) => (.tup [.int d, .int k], 0) | none => (.non, 0)) := by
  obtain ⟨ρ', hL⟩ := loopN h.ne c p (days rs.length) none none
  have h1 := h.l1
  have e2 : rng2O [(.int 1, 0), (.int ((rs.length : Int) + 1), 0)] = some (rngD 1 rs.length) := by
    rw [rng2_at ⟨by omega, by omega, by omega, by omega⟩, show ((rs.length : Int) + 1 - 1).toNat = rs.length by omega]
  have hf : forS (opI rng2O (consM (cM (.int 1)) (consM (chM (opS addO (consS (opS lenO (consS (vS 0) (nilS))) (consS (cS (.int 1)) nilS))) (opM catO (consM (stM (opS lenO (consS (vS 0) (nilS)))) (consM (cM (.int 1)) nilM)))) (nilM)))) (tgN 4) bodyN [some (T rs, 0), some (.int c, 0), some (.int p, 0), some (.int 1, 0), none, none] = (match nxtL rs (c + p) (days rs.length) with | some (d, k) => .rt (.tup [.int d, .int k], 0) ρ' | none => .nx ρ') := by
    rw [forS_at (opI_at (ρ1 := [some (T rs, 0), some (.int c, 0), some (.int p, 0), some (.int 1, 0), none, none]) (ds := [(.int 1, 0), (.int ((rs.length : Int) + 1), 0)]) (by simp [lenO_T, addO, toV]) e2), rng_days, hL]
  unfold bodyN at hf
  cases hx : nxtL rs (c + p) (days rs.length) with
  | none =>
    rw [hx] at hf
    exact runP_rt (ρ := ρ') ((seqS_nx hf).trans rfl)
  | some q =>
    rw [hx] at hf
    exact runP_rt (ρ := ρ') (seqS_rt hf)
def hk (k : Int) : Int := if k = 1 then 8 else 20
theorem v_law_hours (d k : Int) : F__law_hours [.int d, .int k] = .ok (.tup [.int (24 * d + hk k), .int (24 * d + hk k + 12)], 0) := by
  by_cases hk1 : k = 1 <;> simp [F__law_hours, runP, b__law_hours, entry, mulO, toV, eqO_int, hk1, catO, addO, tupO, hk]
def bodyL : MS := seqS (setS 5 (callM F__law_at (consM (rdM 0) (consM (rdM 1) (consM (rdM 2) (consM (chM (opS addO (consS (vS 3) (consS (vS 4) nilS))) (opM catO (consM (rdM 3) (consM (rdM 4) nilM)))) (nilM))))))) (
  ifS (stT (opS gtO (consS (vS 5) (consS (cS (.int 0)) nilS)))) (
  retS (opM ixO (consM (callM F__law_hours (consM (chM (opS addO (consS (vS 3) (consS (vS 4) nilS))) (opM catO (consM (rdM 3) (consM (rdM 4) nilM)))) (consM (rdM 5) (nilM)))) (consM (cM (.int 0)) nilM)))) (
  nxS))
theorem at_v {rs : List Int} (h : RotaV rs) (z : Int) : 0 ≤ at_ rs z ∧ at_ rs z ≤ 2 := by
  have hp := len_pos h.ne
  have h0 := Int.emod_nonneg z (show (rs.length : Int) ≠ 0 by omega)
  have h1 := Int.emod_lt_of_pos z hp
  have : (z % (rs.length : Int)).toNat < rs.length := by omega
  unfold at_ gt
  rw [List.getD_eq_getElem?_getD, List.getElem?_eq_getElem this]
  exact h.v _ (List.getElem_mem this)
theorem loopL {rs cs : List Int} (h : RotaV rs) {c : Int} (h0 : 0 ≤ c) (h1 : c < cs.length) (p : Int) : ∀ (xs : List Int) (o4 o5 : Option VD), ∃ ρ', forL (tgN 4) bodyL (xs.map .int) [some (T rs, 0), some (T cs, 0), some (.int c, 0), some (.int p, 0), o4, o5] =
    (match nxtL rs (gt cs c.toNat + p) xs with | some (d, k) => .rt (.int (24 * (p + d) + hk k), 0) ρ' | none => .nx ρ')
  | [], o4, o5 => ⟨_, rfl⟩
  | x :: r, o4, o5 => by
    have e : gt cs c.toNat + (p + x) = gt cs c.toNat + p + x := by omega
    have hv := at_v h (gt cs c.toNat + p + x)
    by_cases hz : at_ rs (gt cs c.toNat + p + x) = 0
    · obtain ⟨ρ', ih⟩ := loopL h h0 h1 p r (some (.int x, 0)) (some (.int 0, 0))
      refine ⟨ρ', ?_⟩
      have hb : bodyL [some (T rs, 0), some (T cs, 0), some (.int c, 0), some (.int p, 0), some (.int x, 0), o5] = .nx [some (T rs, 0), some (T cs, 0), some (.int c, 0), some (.int p, 0), some (.int x, 0), some (.int 0, 0)] := by
        simp [bodyL, addO, toV, v_law_at h.ne h0 h1, e, hz, gtO]
      simp [forL, tgN, hb, hz, nxtL, ih]
    · have hz' : 0 < at_ rs (gt cs c.toNat + p + x) := by omega
      refine ⟨[some (T rs, 0), some (T cs, 0), some (.int c, 0), some (.int p, 0), some (.int x, 0), some (.int (at_ rs (gt cs c.toNat + p + x)), 0)], ?_⟩
      have hb : bodyL [some (T rs, 0), some (T cs, 0), some (.int c, 0), some (.int p, 0), some (.int x, 0), o5] = .rt (.int (24 * (p + x) + hk (at_ rs (gt cs c.toNat + p + x))), 0) [some (T rs, 0), some (T cs, 0), some (.int c, 0), some (.int p, 0), some (.int x, 0), some (.int (at_ rs (gt cs c.toNat + p + x)), 0)] := by
        simp [bodyL, addO, toV, v_law_at h.ne h0 h1, e, hz, hz', gtO, v_law_hours, ixO, ixS, atI, ixN]
      simp [forL, tgN, hb, hz, nxtL]
theorem v_law_next {rs cs : List Int} (h : RotaV rs) {c : Int} (h0 : 0 ≤ c) (h1 : c < cs.length) (p : Int) : F__law_next [T rs, T cs, .int c, .int p] = .ok (match nxtL rs (gt cs c.toNat + p) (days rs.length) with | some (d, k) => (.int (24 * (p + d) + hk k), 0) | none => (.non, 0)) := by
  obtain ⟨ρ', hL⟩ := loopL h h0 h1 p (days rs.length) none none
  have hl1 := h.l1
  have e2 : rng2O [(.int 1, 0), (.int ((rs.length : Int) + 1), 0)] = some (rngD 1 rs.length) := by
    rw [rng2_at ⟨by omega, by omega, by omega, by omega⟩, show ((rs.length : Int) + 1 - 1).toNat = rs.length by omega]
  have hf : forS (opI rng2O (consM (cM (.int 1)) (consM (chM (opS addO (consS (opS lenO (consS (vS 0) (nilS))) (consS (cS (.int 1)) nilS))) (opM catO (consM (stM (opS lenO (consS (vS 0) (nilS)))) (consM (cM (.int 1)) nilM)))) (nilM)))) (tgN 4) bodyL [some (T rs, 0), some (T cs, 0), some (.int c, 0), some (.int p, 0), none, none] = (match nxtL rs (gt cs c.toNat + p) (days rs.length) with | some (d, k) => .rt (.int (24 * (p + d) + hk k), 0) ρ' | none => .nx ρ') := by
    rw [forS_at (opI_at (ρ1 := [some (T rs, 0), some (T cs, 0), some (.int c, 0), some (.int p, 0), none, none]) (ds := [(.int 1, 0), (.int ((rs.length : Int) + 1), 0)]) (by simp [lenO_T, addO, toV]) e2), rng_days, hL]
  unfold bodyL at hf
  cases hx : nxtL rs (gt cs c.toNat + p) (days rs.length) with
  | none =>
    rw [hx] at hf
    exact runP_rt (ρ := ρ') ((seqS_nx hf).trans rfl)
  | some q =>
    rw [hx] at hf
    exact runP_rt (ρ := ρ') (seqS_rt hf)
theorem wb_at {l : Int} (h : l = 1 ∨ l = 2) : ixS [k_WATCH_BEGINS, .int l] = some (.int (hk l)) := by
  rcases h with rfl | rfl <;> rfl
theorem v_rest_hours {f l d : Int} (hf : f = 1 ∨ f = 2) (hl : l = 1 ∨ l = 2) : F_rest_hours [.int f, .int l, .int d] = .ok (.int (d * 24 + hk l - hk f - 12), 0) := by
  have e1 := wb_at hf
  have e2 := wb_at hl
  simp only [F_rest_hours, runP, b_rest_hours, entry]
  simp [mulO, addO, subO, e1, e2, toV, k_DAY_HOURS, k_WATCH_HOURS, -k_WATCH_BEGINS]
end Em
set_option Elab.async false
set_option linter.all false
set_option maxRecDepth 100000
set_option maxHeartbeats 4000000
namespace Em
open PySem L2 PyProof.Rows
theorem at_per (rs : List Int) (z : Int) : at_ rs (z + rs.length) = at_ rs z := by
  unfold at_; rw [Int.add_emod_right]
theorem at_nat {rs : List Int} {i : Nat} (h : i < rs.length) : at_ rs (i : Int) = gt rs i := by
  unfold at_
  rw [Int.emod_eq_of_lt (by omega) (by omega)]
  rfl
theorem nxt_some {rs : List Int} {z : Int} : ∀ {xs : List Int}, (∃ x ∈ xs, at_ rs (z + x) ≠ 0) → ∃ d l, nxtL rs z xs = some (d, l) ∧ l = at_ rs (z + d) ∧ l ≠ 0
  | [], h => by obtain ⟨x, hx, _⟩ := h; cases hx
  | x :: r, h => by
    by_cases hz : at_ rs (z + x) ≠ 0
    · exact ⟨x, at_ rs (z + x), by unfold nxtL; rw [if_pos hz], rfl, hz⟩
    · obtain ⟨y, hy, h2⟩ := h
      rcases List.mem_cons.mp hy with rfl | hy
      · exact absurd h2 hz
      · obtain ⟨d, l, e, h3⟩ := nxt_some ⟨y, hy, h2⟩
        exact ⟨d, l, by unfold nxtL; rw [if_neg hz]; exact e, h3⟩
theorem mem_days {n : Nat} (h : 0 < n) : (n : Int) ∈ days n := by
  unfold days
  exact List.mem_map.mpr ⟨n - 1, List.mem_range.mpr (by omega), by omega⟩
def optD : Option Int → D | none => .non | some i => .int i
def optMin : List Int → Option Int | [] => none | n :: r => some (r.foldl min n)
theorem optMin_snoc (l : List Int) (x : Int) : optMin (l ++ [x]) = some (match optMin l with | none => x | some m => min m x) := by
  cases l with
  | nil => rfl
  | cons n r => show some ((r ++ [x]).foldl min n) = _; rw [List.foldl_append]; rfl
def hoursAt (rs : List Int) (z : Int) : Int := match nxtL rs z (days rs.length) with | some (d, l) => d * 24 + hk l - hk (at_ rs z) - 12 | none => 0
def hl (rs : List Int) (i : Nat) : List Int := ((List.range i).filter fun (p : Nat) => decide (at_ rs (p : Int) ≠ 0)).map fun (p : Nat) => hoursAt rs (p : Int)
theorem hl_yes {rs : List Int} {i : Nat} (h : at_ rs (i : Int) ≠ 0) : hl rs (i + 1) = hl rs i ++ [hoursAt rs (i : Int)] := by
  unfold hl; rw [List.range_succ, List.filter_append, List.map_append]; simp [h]
theorem hl_no {rs : List Int} {i : Nat} (h : at_ rs (i : Int) = 0) : hl rs (i + 1) = hl rs i := by
  unfold hl; rw [List.range_succ, List.filter_append, List.map_append]; simp [h]
theorem nxt_at {rs : List Int} (h : RotaV rs) {z : Int} (hz : at_ rs z ≠ 0) : ∃ d l, nxtL rs z (days rs.length) = some (d, l) ∧ (l = 1 ∨ l = 2) := by
  obtain ⟨d, l, e, h1, h2⟩ := nxt_some (rs := rs) (z := z) (xs := days rs.length) ⟨_, mem_days h.l0, by rw [at_per]; exact hz⟩
  have := at_v h (z + d)
  exact ⟨d, l, e, by omega⟩
theorem minO_two (a b : Int) : minO [.int a, .int b] = some (.int (min a b)) := by
  show some (D.int (if b < a then b else a)) = _
  congr 2
  omega
def bodyP' (Fn Fr : List D → FR) : MS := ifS (stT (opS neO (consS (vS 3) (consS (cS k_RESTING) nilS)))) (
  seqS (asgS (tgT [tgN 4, tgN 5]) (callM Fn (consM (rdM 0) (consM (cM (.int 0)) (consM (rdM 2) (consM (cM (.int 1)) (nilM))))))) (
  seqS (setS 6 (callM Fr (consM (rdM 3) (consM (rdM 5) (consM (rdM 4) (nilM)))))) (
  setS 1 (ifM (stT (opS isO (consS (vS 1) (consS (cS .non) nilS)))) (rdM 6) (stM (opS minO (consS (vS 1) (consS (vS 6) (nilS))))))))) (
  nxS)
def bodyQ' (Fn Fh : List D → FR) : MS := ifS (stT (opS gtO (consS (vS 3) (consS (cS (.int 0)) nilS)))) (
  seqS (setS 4 (opM (liftO subO) (consM (callM Fn (consM (rdM 0) (consM (opM tupO (consM (cM (.int 0)) (nilM))) (consM (cM (.int 0)) (consM (rdM 2) (nilM)))))) (consM (opM ixO (consM (callM Fh (consM (rdM 2) (consM (rdM 3) (nilM)))) (consM (cM (.int 1)) nilM))) nilM)))) (
  setS 1 (ifM (stT (opS isO (consS (vS 1) (consS (cS .non) nilS)))) (rdM 4) (stM (opS minO (consS (vS 1) (consS (vS 4) (nilS)))))))) (
  nxS)
theorem pz (Fn Fr : List D → FR) (t f : D) (j : Int) (o4 o5 o6 : Option VD) : bodyP' Fn Fr [some (t, 0), some (f, 0), some (.int j, 0), some (.int 0, 0), o4, o5, o6] = .nx [some (t, 0), some (f, 0), some (.int j, 0), some (.int 0, 0), o4, o5, o6] := by
  simp [bodyP', neO_int, k_RESTING]
theorem pn (Fn Fr : List D → FR) (t : D) (j a d l hh : Int) (o4 o5 o6 : Option VD) (hz : a ≠ 0) (h1 : Fn [t, .int 0, .int j, .int 1] = .ok (.tup [.int d, .int l], 0)) (h2 : Fr [.int a, .int l, .int d] = .ok (.int hh, 0)) :
    bodyP' Fn Fr [some (t, 0), some (.non, 0), some (.int j, 0), some (.int a, 0), o4, o5, o6] = .nx [some (t, 0), some (.int hh, 0), some (.int j, 0), some (.int a, 0), some (.int d, 0), some (.int l, 0), some (.int hh, 0)] := by
  simp [bodyP', neO_int, hz, k_RESTING, h1, h2, tgT, tgs, tgN, isO, isNon]
theorem ps_ (Fn Fr : List D → FR) (t : D) (j a d l hh m : Int) (o4 o5 o6 : Option VD) (hz : a ≠ 0) (h1 : Fn [t, .int 0, .int j, .int 1] = .ok (.tup [.int d, .int l], 0)) (h2 : Fr [.int a, .int l, .int d] = .ok (.int hh, 0)) :
    bodyP' Fn Fr [some (t, 0), some (.int m, 0), some (.int j, 0), some (.int a, 0), o4, o5, o6] = .nx [some (t, 0), some (.int (min m hh), 0), some (.int j, 0), some (.int a, 0), some (.int d, 0), some (.int l, 0), some (.int hh, 0)] := by
  simp [bodyP', neO_int, hz, k_RESTING, h1, h2, tgT, tgs, tgN, isO, isNon, minO_two, toV]
theorem qz (Fn Fr : List D → FR) (t f : D) (j : Int) (o4 : Option VD) : bodyQ' Fn Fr [some (t, 0), some (f, 0), some (.int j, 0), some (.int 0, 0), o4] = .nx [some (t, 0), some (f, 0), some (.int j, 0), some (.int 0, 0), o4] := by
  simp [bodyQ', gtO]
theorem qn (Fn Fh : List D → FR) (t : D) (j a u b e : Int) (o4 : Option VD) (hz : 0 < a) (h1 : Fn [t, .tup [.int 0], .int 0, .int j] = .ok (.int u, 0)) (h2 : Fh [.int j, .int a] = .ok (.tup [.int b, .int e], 0)) :
    bodyQ' Fn Fh [some (t, 0), some (.non, 0), some (.int j, 0), some (.int a, 0), o4] = .nx [some (t, 0), some (.int (u - e), 0), some (.int j, 0), some (.int a, 0), some (.int (u - e), 0)] := by
  simp [bodyQ', gtO, hz, tupO, h1, h2, ixO, ixS, atI, ixN, liftO, subO, isO, isNon]
theorem qs (Fn Fh : List D → FR) (t : D) (j a u b e m : Int) (o4 : Option VD) (hz : 0 < a) (h1 : Fn [t, .tup [.int 0], .int 0, .int j] = .ok (.int u, 0)) (h2 : Fh [.int j, .int a] = .ok (.tup [.int b, .int e], 0)) :
    bodyQ' Fn Fh [some (t, 0), some (.int m, 0), some (.int j, 0), some (.int a, 0), o4] = .nx [some (t, 0), some (.int (min m (u - e)), 0), some (.int j, 0), some (.int a, 0), some (.int (u - e), 0)] := by
  simp [bodyQ', gtO, hz, tupO, h1, h2, ixO, ixS, atI, ixN, liftO, subO, isO, isNon, minO_two, toV]
theorem E_get {rs : List Int} {j : Nat} {d : D} (h : ((E rs).map pairD)[j]? = some d) : j < rs.length ∧ d = .tup [.int j, .int (at_ rs (j : Int))] := by
  unfold E at h
  rw [List.map_map, List.getElem?_map] at h
  cases e : (List.range rs.length)[j]? with
  | none => rw [e] at h; cases h
  | some k =>
    obtain ⟨h1, h2⟩ := List.getElem?_eq_some_iff.mp e
    simp at h1 h2
    subst h2
    rw [e] at h
    cases h
    exact ⟨h1, by simp [pairD, at_nat h1]⟩
theorem foundD (l : List Int) (x : Int) (ρ1 : En) : True := trivial
theorem v_least_rest {rs : List Int} (h : RotaV rs) : F_least_rest [T rs] = .ok (optD (optMin (hl rs rs.length)), 0) := by
  obtain ⟨ρ', e1, o2, o3, o4, o5, o6, e2⟩ := forL_inv (t := tgT [tgN 2, tgN 3]) (m := bodyP' F_next_watch F_rest_hours) (fun i ρ => ∃ o2 o3 o4 o5 o6 : Option VD, ρ = [some (T rs, 0), some (optD (optMin (hl rs i)), 0), o2, o3, o4, o5, o6]) ((E rs).map pairD) 0
    [some (T rs, 0), some (.non, 0), none, none, none, none, none] ⟨none, none, none, none, none, rfl⟩ (by
      rintro j d ρ hj ⟨o2, o3, o4, o5, o6, e⟩
      subst e
      obtain ⟨hjl, rfl⟩ := E_get hj
      rw [Nat.zero_add]
      refine ⟨[some (T rs, 0), some (optD (optMin (hl rs j)), 0), some (.int j, 0), some (.int (at_ rs (j : Int)), 0), o4, o5, o6], ?_⟩
      by_cases hz : at_ rs (j : Int) = 0
      · refine ⟨[some (T rs, 0), some (optD (optMin (hl rs j)), 0), some (.int j, 0), some (.int (at_ rs (j : Int)), 0), o4, o5, o6], rfl, ?_, _, _, _, _, _, by rw [hl_no hz]⟩
        rw [hz]; exact pz _ _ _ _ _ _ _ _
      · obtain ⟨d, l, hn, hl2⟩ := nxt_at h hz
        have hnw := v_next_watch h 0 (j : Int)
        rw [show (0 : Int) + (j : Int) = (j : Int) by omega, hn] at hnw
        have hv := at_v h (j : Int)
        have hk1 : at_ rs (j : Int) = 1 ∨ at_ rs (j : Int) = 2 := by omega
        have hrh := v_rest_hours (d := d) hk1 hl2
        have hat : hoursAt rs (j : Int) = d * 24 + hk l - hk (at_ rs (j : Int)) - 12 := by unfold hoursAt; rw [hn]
        rw [← hat] at hrh
        cases hm : optMin (hl rs j) with
        | none => exact ⟨_, rfl, pn _ _ _ _ _ _ _ _ _ _ _ hz hnw hrh, _, _, _, _, _, by rw [hl_yes hz, optMin_snoc, hm]; rfl⟩
        | some m => exact ⟨_, rfl, ps_ _ _ _ _ _ _ _ _ m _ _ _ hz hnw hrh, _, _, _, _, _, by rw [hl_yes hz, optMin_snoc, hm]; rfl⟩)
  have hE : ((E rs).map pairD).length = rs.length := by simp [E]
  rw [hE, Nat.zero_add] at e2
  subst e2
  have hl1 := h.l1
  have hcr := v_check_rota (d := T rs) (okD_T (by omega))
  rw [rotaB_T h] at hcr
  simp only [if_true] at hcr
  have hf : forS (opI enumO (consM (rdM 0) nilM)) (tgT [tgN 2, tgN 3]) (bodyP' F_next_watch F_rest_hours) [some (T rs, 0), some (.non, 0), none, none, none, none, none] = .nx [some (T rs, 0), some (optD (optMin (hl rs rs.length)), 0), o2, o3, o4, o5, o6] := by
    rw [forS_at (opI_at (ρ1 := [some (T rs, 0), some (.non, 0), none, none, none, none, none]) (ds := [(T rs, 0)]) (by simp) (enum_T rs 0)), e1]
  refine runP_rt (ρ := [some (T rs, 0), none, o2, o3, o4, o5, o6]) ?_
  refine (seqS_nx (ρ1 := [some (T rs, 0), none, none, none, none, none, none]) (by simp [hcr, entry])).trans ?_
  refine (seqS_nx (ρ1 := [some (T rs, 0), some (.non, 0), none, none, none, none, none]) (by simp)).trans ?_
  refine (seqS_nx hf).trans ?_
  simp
theorem v_law_least {rs : List Int} (h : RotaV rs) : F__law_least [T rs] = .ok (optD (optMin (hl rs rs.length)), 0) := by
  obtain ⟨ρ', e1, o2, o3, o4, e2⟩ := forL_inv (t := tgT [tgN 2, tgN 3]) (m := bodyQ' F__law_next F__law_hours) (fun i ρ => ∃ o2 o3 o4 : Option VD, ρ = [some (T rs, 0), some (optD (optMin (hl rs i)), 0), o2, o3, o4]) ((E rs).map pairD) 0
    [some (T rs, 0), some (.non, 0), none, none, none] ⟨none, none, none, rfl⟩ (by
      rintro j d ρ hj ⟨o2, o3, o4, e⟩
      subst e
      obtain ⟨hjl, rfl⟩ := E_get hj
      rw [Nat.zero_add]
      refine ⟨[some (T rs, 0), some (optD (optMin (hl rs j)), 0), some (.int j, 0), some (.int (at_ rs (j : Int)), 0), o4], ?_⟩
      by_cases hz : at_ rs (j : Int) = 0
      · refine ⟨[some (T rs, 0), some (optD (optMin (hl rs j)), 0), some (.int j, 0), some (.int (at_ rs (j : Int)), 0), o4], rfl, ?_, _, _, _, by rw [hl_no hz]⟩
        rw [hz]; exact qz _ _ _ _ _ _
      · obtain ⟨d, l, hn, hl2⟩ := nxt_at h hz
        have hnw := v_law_next (cs := [0]) h (c := 0) (by omega) (by simp) (j : Int)
        rw [show gt [0] (0 : Int).toNat + (j : Int) = (j : Int) by simp [gt], hn] at hnw
        have hnw' : F__law_next [T rs, .tup [.int 0], .int 0, .int j] = .ok (.int (24 * ((j : Int) + d) + hk l), 0) := hnw
        have hv := at_v h (j : Int)
        have hp : 0 < at_ rs (j : Int) := by omega
        have hat : hoursAt rs (j : Int) = 24 * ((j : Int) + d) + hk l - (24 * (j : Int) + hk (at_ rs (j : Int)) + 12) := by unfold hoursAt; rw [hn]; dsimp only; omega
        cases hm : optMin (hl rs j) with
        | none => exact ⟨_, rfl, qn _ _ _ _ _ _ _ _ _ hp hnw' (v_law_hours _ _), _, _, _, by rw [hl_yes hz, optMin_snoc, hm, hat]; rfl⟩
        | some m => exact ⟨_, rfl, qs _ _ _ _ _ _ _ _ m _ hp hnw' (v_law_hours _ _), _, _, _, by rw [hl_yes hz, optMin_snoc, hm, hat]; rfl⟩)
  have hE : ((E rs).map pairD).length = rs.length := by simp [E]
  rw [hE, Nat.zero_add] at e2
  subst e2
  have hf : forS (opI enumO (consM (rdM 0) nilM)) (tgT [tgN 2, tgN 3]) (bodyQ' F__law_next F__law_hours) [some (T rs, 0), some (.non, 0), none, none, none] = .nx [some (T rs, 0), some (optD (optMin (hl rs rs.length)), 0), o2, o3, o4] := by
    rw [forS_at (opI_at (ρ1 := [some (T rs, 0), some (.non, 0), none, none, none]) (ds := [(T rs, 0)]) (by simp) (enum_T rs 0)), e1]
  refine runP_rt (ρ := [some (T rs, 0), none, o2, o3, o4]) ?_
  refine (seqS_nx (ρ1 := [some (T rs, 0), some (.non, 0), none, none, none]) (by simp [entry])).trans ?_
  refine (seqS_nx hf).trans ?_
  simp
end Em
set_option Elab.async false
set_option linter.all false
set_option maxRecDepth 100000
set_option maxHeartbeats 4000000
namespace Em
open PySem L2 PyProof.Rows
/-! ### turned rotas -/
def rot : List Int → List Int | [] => [] | r :: t => t ++ [r]
theorem rot_len (rs : List Int) : (rot rs).length = rs.length := by cases rs <;> simp [rot]
theorem at_rot {rs : List Int} (h : rs ≠ []) (z : Int) : at_ (rot rs) z = at_ rs (z + 1) := by
  cases rs with
  | nil => exact absurd rfl h
  | cons r t =>
    unfold at_
    rw [rot_len]
    have hn : ((r :: t).length : Int) = (t.length : Int) + 1 := by simp
    rw [hn]
    have h0 := Int.emod_nonneg z (show (t.length : Int) + 1 ≠ 0 by omega)
    have h1 := Int.emod_lt_of_pos z (show (0 : Int) < (t.length : Int) + 1 by omega)
    have h2 : (z + 1) % ((t.length : Int) + 1) = (z % ((t.length : Int) + 1) + 1) % ((t.length : Int) + 1) := by rw [Int.emod_add_emod]
    rw [h2]
    generalize z % ((t.length : Int) + 1) = m at h0 h1 ⊢
    by_cases hm : m = (t.length : Int)
    · subst hm
      rw [Int.emod_self]
      simp [rot, gt, List.getD]
    · rw [Int.emod_eq_of_lt (by omega) (by omega)]
      obtain ⟨k, rfl⟩ := Int.eq_ofNat_of_zero_le h0
      have hk : k < t.length := by omega
      have e1 : ((k : Int) + 1).toNat = k + 1 := by omega
      rw [e1, Int.toNat_natCast]
      simp [rot, gt, List.getD, List.getElem?_append_left hk]
theorem rot_ne {rs : List Int} (h : rs ≠ []) : rot rs ≠ [] := by
  intro e; have := rot_len rs; rw [e] at this; simp at this; exact h (List.eq_nil_of_length_eq_zero this.symm)
theorem rot_v {rs : List Int} (h : RotaV rs) : RotaV (rot rs) := by
  refine ⟨by rw [rot_len]; exact h.l0, by rw [rot_len]; exact h.l1, fun r hr => ?_⟩
  cases rs with
  | nil => cases hr
  | cons a t =>
    simp only [rot, List.mem_append, List.mem_singleton] at hr
    exact h.v r (by rcases hr with x | x <;> simp [x])
theorem optMin_spec {l : List Int} {m : Int} (h : optMin l = some m) : m ∈ l ∧ ∀ y ∈ l, m ≤ y := by
  cases l with
  | nil => cases h
  | cons n r =>
    cases h
    obtain ⟨h1, h2, h3⟩ := foldl_min_le r n
    refine ⟨?_, fun y hy => ?_⟩
    · rcases h3 with e | e
      · rw [e]; exact List.mem_cons_self
      · exact List.mem_cons_of_mem _ e
    · rcases List.mem_cons.mp hy with rfl | hy
      · exact h1
      · exact h2 y hy
theorem optMin_mem {l l' : List Int} (h : ∀ x, x ∈ l ↔ x ∈ l') : optMin l = optMin l' := by
  cases e : optMin l with
  | none =>
    cases l with
    | nil =>
      cases l' with
      | nil => rfl
      | cons a r => exact absurd ((h a).mpr List.mem_cons_self) (by simp)
    | cons a r => cases e
  | some m =>
    obtain ⟨h1, h2⟩ := optMin_spec e
    cases e' : optMin l' with
    | none =>
      cases l' with
      | nil => exact absurd ((h m).mp h1) (by simp)
      | cons a r => cases e'
    | some m' =>
      obtain ⟨h3, h4⟩ := optMin_spec e'
      have := h2 m' ((h m').mpr h3)
      have := h4 m ((h m).mp h1)
      congr 1; omega
theorem minL_opt (l : List Int) : minL l = (optMin l).getD 0 := by cases l <;> rfl
/-- what is told of the moments 1 to n is told of 0 to n-1 -/
theorem turn_mem {n : Nat} (hn : 0 < n) {α : Type} (P : Int → Prop) (f : Int → α) (hP : P (n : Int) ↔ P 0) (hf : f (n : Int) = f 0) (x : α) : (∃ p : Nat, p < n ∧ P ((p : Int) + 1) ∧ f ((p : Int) + 1) = x) ↔ ∃ p : Nat, p < n ∧ P (p : Int) ∧ f (p : Int) = x := by
  constructor
  · rintro ⟨p, h1, h2, h3⟩
    by_cases hp : p + 1 = n
    · refine ⟨0, hn, ?_, ?_⟩
      · have : ((p : Int) + 1) = (n : Int) := by omega
        rw [this] at h2; exact hP.mp h2
      · have : ((p : Int) + 1) = (n : Int) := by omega
        rw [this, hf] at h3; exact h3
    · exact ⟨p + 1, by omega, by push_cast; exact h2, by push_cast; exact h3⟩
  · rintro ⟨p, h1, h2, h3⟩
    cases p with
    | zero =>
      refine ⟨n - 1, by omega, ?_, ?_⟩
      · rw [show (((n - 1 : Nat) : Int) + 1) = (n : Int) by omega]; exact hP.mpr h2
      · rw [show (((n - 1 : Nat) : Int) + 1) = (n : Int) by omega, hf]; exact h3
    | succ p => exact ⟨p, by omega, by push_cast at h2; exact h2, by push_cast at h3; exact h3⟩
theorem nxt_rot {rs : List Int} (h : rs ≠ []) (z : Int) : ∀ xs : List Int, nxtL (rot rs) z xs = nxtL rs (z + 1) xs
  | [] => rfl
  | x :: r => by
    unfold nxtL
    rw [at_rot h, show z + x + 1 = z + 1 + x by omega, nxt_rot h z r]
theorem hours_rot {rs : List Int} (h : rs ≠ []) (z : Int) : hoursAt (rot rs) z = hoursAt rs (z + 1) := by
  unfold hoursAt
  rw [rot_len, nxt_rot h, at_rot h]
theorem nxt_per (rs : List Int) (z : Int) : ∀ xs : List Int, nxtL rs (z + rs.length) xs = nxtL rs z xs
  | [] => rfl
  | x :: r => by
    unfold nxtL
    rw [show z + (rs.length : Int) + x = z + x + rs.length by omega, at_per, nxt_per rs z r]
theorem hours_per (rs : List Int) (z : Int) : hoursAt rs (z + rs.length) = hoursAt rs z := by
  unfold hoursAt
  rw [nxt_per, at_per]
theorem hl_rot {rs : List Int} (h : rs ≠ []) : optMin (hl (rot rs) (rot rs).length) = optMin (hl rs rs.length) := by
  apply optMin_mem
  intro x
  have := turn_mem (len_posN h) (fun z => at_ rs z ≠ 0) (hoursAt rs) (by rw [show (rs.length : Int) = 0 + rs.length by omega, at_per]) (by rw [show (rs.length : Int) = 0 + rs.length by omega, hours_per]) x
  rw [rot_len]
  unfold hl
  simp only [List.mem_map, List.mem_filter, List.mem_range, decide_eq_true_eq, at_rot h, hours_rot h, and_assoc]
  exact this
theorem duty_rot {rs : List Int} (h : rs ≠ []) (cs : List Int) (d k : Int) : duty (rot rs) cs d k = duty rs cs (d + 1) k := by
  unfold duty
  simp only [at_rot h, Int.add_assoc]
theorem duty_per (rs cs : List Int) (d k : Int) : duty rs cs (d + rs.length) k = duty rs cs d k := by
  unfold duty
  congr 2
  funext i
  rw [← Int.add_assoc, at_per]
theorem mn_rot {rs : List Int} (h : rs ≠ []) (cs : List Int) (k : Int) : mn (rot rs) cs k = mn rs cs k := by
  unfold mn
  rw [minL_opt, minL_opt]
  congr 1
  apply optMin_mem
  intro x
  have := turn_mem (len_posN h) (fun _ => True) (fun d => cnt rs cs d k) Iff.rfl (by show cnt rs cs _ k = cnt rs cs 0 k; unfold cnt; rw [show (rs.length : Int) = 0 + rs.length by omega, duty_per]) x
  rw [rot_len]
  simp only [List.mem_map, List.mem_range]
  have e : ∀ d : Int, cnt (rot rs) cs d k = cnt rs cs (d + 1) k := fun d => by unfold cnt; rw [duty_rot h]
  simp only [e]
  simpa using this
/-! ### the sums -/
def sm : Nat → (Nat → Nat) → Nat | 0, _ => 0 | n + 1, f => sm n f + f n
theorem sm_add (n : Nat) (f g : Nat → Nat) : sm n (fun i => f i + g i) = sm n f + sm n g := by
  induction n with
  | zero => rfl
  | succ n ih => simp only [sm, ih]; omega
theorem sm_swap (n m : Nat) (f : Nat → Nat → Nat) : sm n (fun d => sm m fun i => f i d) = sm m fun i => sm n (f i) := by
  induction n with
  | zero =>
    simp only [sm]
    induction m with
    | zero => rfl
    | succ m ih => simp only [sm, ← ih]
  | succ n ih =>
    simp only [sm]
    rw [ih, ← sm_add]
theorem sm_ge {n : Nat} {a : Nat} {f : Nat → Nat} (h : ∀ d, d < n → a ≤ f d) : a * n ≤ sm n f := by
  induction n with
  | zero => simp [sm]
  | succ n ih =>
    have := ih fun d hd => h d (by omega)
    have := h n (by omega)
    simp only [sm, Nat.mul_succ]; omega
theorem sm_const (n a : Nat) : sm n (fun _ => a) = a * n := by
  induction n with
  | zero => simp [sm]
  | succ n ih => simp only [sm, ih, Nat.mul_succ]
theorem sm_tele (g : Int → Nat) (c : Int) (n : Nat) : sm n (fun d => g (c + 1 + (d : Int))) + g c = sm n (fun d => g (c + (d : Int))) + g (c + n) := by
  induction n with
  | zero => simp [sm]
  | succ n ih =>
    simp only [sm]
    have e : c + 1 + (n : Int) = c + ((n + 1 : Nat) : Int) := by push_cast; omega
    rw [e]; omega
theorem sm_shift (g : Int → Nat) (n : Nat) (hp : ∀ z, g (z + n) = g z) (c : Nat) : sm n (fun d => g ((c : Int) + (d : Int))) = sm n (fun d => g (d : Int)) := by
  induction c with
  | zero => simp
  | succ c ih =>
    have := sm_tele g (c : Int) n
    rw [hp] at this
    rw [← ih]
    have e : ((c + 1 : Nat) : Int) = (c : Int) + 1 := by push_cast; rfl
    rw [e]; omega
theorem filter_sm (p : Nat → Bool) (m : Nat) : ((List.range m).filter p).length = sm m fun i => if p i then 1 else 0 := by
  induction m with
  | zero => rfl
  | succ m ih =>
    rw [List.range_succ, List.filter_append, List.length_append, ih]
    simp only [sm]
    congr 1
    by_cases h : p m = true <;> simp [h]
theorem cnt_sm (rs cs : List Int) (d k : Int) : cnt rs cs d k = ((sm cs.length fun i => if at_ rs (gt cs i + d) = k then 1 else 0 : Nat) : Int) := by
  unfold cnt duty
  rw [List.length_map, filter_sm]
  simp
theorem cong_sm {n : Nat} {f g : Nat → Nat} (h : ∀ i, i < n → f i = g i) : sm n f = sm n g := by
  induction n with
  | zero => rfl
  | succ n ih => simp only [sm]; rw [ih fun i hi => h i (by omega), h n (by omega)]
theorem fact {rs cs : List Int} (h : RotaV rs) (hc : CrewV cs rs.length) (k : Int) : mn rs cs k * rs.length ≤ ((sm rs.length fun d => if at_ rs (d : Int) = k then 1 else 0 : Nat) : Int) * cs.length := by
  have hmin : ∀ d : Nat, d < rs.length → mn rs cs k ≤ cnt rs cs (d : Int) k := fun d hd => by
    unfold mn
    rw [minL_opt]
    cases e : optMin ((List.range rs.length).map fun (d : Nat) => cnt rs cs (d : Int) k) with
    | none =>
      have hne := range_ne h.ne fun d : Nat => cnt rs cs (d : Int) k
      cases e2 : (List.range rs.length).map fun (d : Nat) => cnt rs cs (d : Int) k with
      | nil => exact absurd e2 hne
      | cons a r => rw [e2] at e; cases e
    | some m => exact (optMin_spec e).2 _ (List.mem_map.mpr ⟨d, List.mem_range.mpr hd, rfl⟩)
  have hnn : 0 ≤ mn rs cs k := by
    unfold mn
    rw [minL_opt]
    cases e : optMin ((List.range rs.length).map fun (d : Nat) => cnt rs cs (d : Int) k) with
    | none => exact Int.le_refl _
    | some m =>
      obtain ⟨d, _, e2⟩ := List.mem_map.mp (optMin_spec e).1
      rw [← e2]
      exact Int.natCast_nonneg _
  obtain ⟨a, ha⟩ := Int.eq_ofNat_of_zero_le hnn
  have h1 : a * rs.length ≤ sm rs.length fun d => sm cs.length fun i => if at_ rs (gt cs i + (d : Int)) = k then 1 else 0 := sm_ge fun d hd => by
    have := hmin d hd
    rw [cnt_sm, ha] at this
    exact Int.ofNat_le.mp this
  rw [sm_swap rs.length cs.length fun i d => if at_ rs (gt cs i + (d : Int)) = k then 1 else 0] at h1
  have h2 : (sm cs.length fun i => sm rs.length fun d => if at_ rs (gt cs i + (d : Int)) = k then 1 else 0) = sm cs.length fun _ => sm rs.length fun d => if at_ rs (d : Int) = k then 1 else 0 := cong_sm fun i hi => by
    have hi' : 0 ≤ gt cs i := by
      unfold gt
      rw [List.getD_eq_getElem?_getD, List.getElem?_eq_getElem hi]
      exact (hc.v _ (List.getElem_mem hi)).1
    obtain ⟨c, hc'⟩ := Int.eq_ofNat_of_zero_le hi'
    rw [hc']
    exact sm_shift (fun z => if at_ rs z = k then 1 else 0) rs.length (fun z => by rw [at_per]) c
  rw [h2, sm_const] at h1
  rw [ha]
  exact_mod_cast h1
theorem count_sm (rs : List Int) (k : Int) : ((rs.map V.int).countP fun z => eqV z (.int k)) = sm rs.length fun d => if at_ rs (d : Int) = k then 1 else 0 := by
  have e1 : (sm rs.length fun d => if at_ rs (d : Int) = k then 1 else 0) = sm rs.length fun d => if gt rs d = k then 1 else 0 := cong_sm fun i hi => by rw [at_nat hi]
  rw [e1, List.countP_map]
  have key : ∀ (l : List Int) (p : Int → Bool), l.countP p = sm l.length fun d => if p (gt l d) then 1 else 0 := by
    intro l p
    have hl : l = (List.range l.length).map (gt l) := by
      apply List.ext_getElem?
      intro i
      rw [List.getElem?_map]
      by_cases hi : i < l.length
      · rw [List.getElem?_eq_getElem hi, List.getElem?_eq_getElem (by simpa using hi)]
        simp [gt, List.getD, List.getElem?_eq_getElem hi]
      · rw [List.getElem?_eq_none (by omega), List.getElem?_eq_none (by simp; omega)]; rfl
    rw [← filter_sm, ← List.countP_eq_length_filter]
    conv => lhs; rw [hl, List.countP_map]
    rfl
  rw [key]
  apply cong_sm
  intro i hi
  show (if (gt rs i == k) = true then 1 else 0) = _
  simp
end Em
set_option Elab.async false
set_option linter.all false
set_option maxRecDepth 100000
set_option maxHeartbeats 4000000
namespace Em
open PySem L2 PyProof.Rows
/-! ### draws -/
theorem mul_at {a b : Int} (h : (-(2 ^ 64) < a ∧ a < 2 ^ 64) ∨ (-(2 ^ 64) < b ∧ b < 2 ^ 64)) : mulO [.int a, .int b] = some (.int (a * b)) := if_pos h
theorem mod_at {a b : Int} (h : 0 < b) : modO [.int a, .int b] = some (.int (a % b)) := if_pos h
theorem fdiv_at {a b : Int} (h : 0 < b ∧ b < 1073741824) : fdivO [.int a, .int b] = some (.int (a / b)) := if_pos h
theorem pow_18 : powO [.int 10, .int 18] = some (.int (10 ^ 18)) := rfl
def hnd (cells : List Int) (i b m c : Int) : D := .lst [.lst (cells.map .int), .int i, .int b, .int m, .int c]
structure HV (cells : List Int) (i b m c : Int) : Prop where
  cs : ∀ x ∈ cells, 0 ≤ x
  i : 0 ≤ i
  b : 0 ≤ b
  m : 0 ≤ m ∧ m < 2147483648
  c : 0 ≤ c
def Hd (d : D) : Prop := ∃ cells i b m c, d = hnd cells i b m c ∧ HV cells i b m c
def ph1 : MS := ifS (andT (stT (opS eqO (consS (opS ixS (consS (vS 0) (consS (cS (.int 2)) nilS))) (consS (cS (.int 0)) nilS)))) (stT (opS ltO (consS (opS ixS (consS (vS 0) (consS (cS (.int 1)) nilS))) (consS (opS lenO (consS (opS ixS (consS (vS 0) (consS (cS (.int 0)) nilS))) (nilS))) nilS))))) (
  seqS (setS 2 (chM (opS ixS (consS (opS ixS (consS (vS 0) (consS (cS (.int 0)) nilS))) (consS (opS ixS (consS (vS 0) (consS (cS (.int 1)) nilS))) nilS))) (opM ixO (consM (chM (opS ixS (consS (vS 0) (consS (cS (.int 0)) nilS))) (opM ixO (consM (rdM 0) (consM (cM (.int 0)) nilM)))) (consM (chM (opS ixS (consS (vS 0) (consS (cS (.int 1)) nilS))) (opM ixO (consM (rdM 0) (consM (cM (.int 1)) nilM)))) nilM))))) (
  seqS (setixS 0 (cS (.int 1)) (chM (opS addO (consS (opS ixS (consS (vS 0) (consS (cS (.int 1)) nilS))) (consS (cS (.int 1)) nilS))) (opM catO (consM (chM (opS ixS (consS (vS 0) (consS (cS (.int 1)) nilS))) (opM ixO (consM (rdM 0) (consM (cM (.int 1)) nilM)))) (consM (cM (.int 1)) nilM))))) (
  seqS (setixS 0 (cS (.int 3)) (stM (opS modO (consS (opS intO (consS (opS addO (consS (opS addO (consS (opS mulO (consS (opS ixS (consS (vS 0) (consS (cS (.int 3)) nilS))) (consS (cS (.int 69621)) nilS))) (consS (vS 2) nilS))) (consS (cS (.int 11)) nilS))) (nilS))) (consS (cS (.int 2147483629)) nilS))))) (
  ifS (stT (opS geO (consS (vS 2) (consS (opS powO (consS (cS (.int 10)) (consS (cS (.int 18)) nilS))) nilS)))) (
  setixS 0 (cS (.int 2)) (rdM 2)) (
  nxS))))) (
  nxS)
def ph2 : MS := ifS (stT (opS gtO (consS (opS ixS (consS (vS 0) (consS (cS (.int 2)) nilS))) (consS (cS (.int 0)) nilS)))) (
  seqS (setS 3 (stM (opS modO (consS (opS intO (consS (opS ixS (consS (vS 0) (consS (cS (.int 2)) nilS))) (nilS))) (consS (vS 1) nilS))))) (
  seqS (setixS 0 (cS (.int 2)) (stM (opS fdivO (consS (opS ixS (consS (vS 0) (consS (cS (.int 2)) nilS))) (consS (vS 1) nilS))))) (
  retV 3))) (
  nxS)
section
variable {cells : List Int} {i b m c v : Int} {k : Nat} {f : M VD} {ρ : En}
theorem ixh0 : ixS [hnd cells i b m c, .int 0] = some (.lst (cells.map .int)) := rfl
theorem ixh1 : ixS [hnd cells i b m c, .int 1] = some (.int i) := rfl
theorem ixh2 : ixS [hnd cells i b m c, .int 2] = some (.int b) := rfl
theorem ixh3 : ixS [hnd cells i b m c, .int 3] = some (.int m) := rfl
theorem ixh4 : ixS [hnd cells i b m c, .int 4] = some (.int c) := rfl
theorem sth1 (hf : f ρ = .ok (.int v, k) ρ) (h0 : ρ[0]? = some (some (hnd cells i b m c, 1))) : setixS 0 (cS (.int 1)) f ρ = .nx (ρ.set 0 (some (hnd cells v b m c, 1))) := by
  unfold setixS; rw [hf]; dsimp only; rw [h0]; rfl
theorem sth2 (hf : f ρ = .ok (.int v, k) ρ) (h0 : ρ[0]? = some (some (hnd cells i b m c, 1))) : setixS 0 (cS (.int 2)) f ρ = .nx (ρ.set 0 (some (hnd cells i v m c, 1))) := by
  unfold setixS; rw [hf]; dsimp only; rw [h0]; rfl
theorem sth3 (hf : f ρ = .ok (.int v, k) ρ) (h0 : ρ[0]? = some (some (hnd cells i b m c, 1))) : setixS 0 (cS (.int 3)) f ρ = .nx (ρ.set 0 (some (hnd cells i b v c, 1))) := by
  unfold setixS; rw [hf]; dsimp only; rw [h0]; rfl
theorem sth4 (hf : f ρ = .ok (.int v, k) ρ) (h0 : ρ[0]? = some (some (hnd cells i b m c, 1))) : setixS 0 (cS (.int 4)) f ρ = .nx (ρ.set 0 (some (hnd cells i b m v, 1))) := by
  unfold setixS; rw [hf]; dsimp only; rw [h0]; rfl
end
theorem ifS_t {c : M Bool} {f g : MS} {ρ ρ1 : En} (h : c ρ = .ok true ρ1) : ifS c f g ρ = f ρ1 := by unfold ifS; rw [h]
theorem ifS_f {c : M Bool} {f g : MS} {ρ ρ1 : En} (h : c ρ = .ok false ρ1) : ifS c f g ρ = g ρ1 := by unfold ifS; rw [h]
theorem ph1_ok {cells : List Int} {i b m c : Int} (h : HV cells i b m c) (bd : Int) : ∃ i' b' m' o2, ph1 [some (hnd cells i b m c, 1), some (.int bd, 0), none, none, none] = .nx [some (hnd cells i' b' m' c, 1), some (.int bd, 0), o2, none, none] ∧ HV cells i' b' m' c := by
  by_cases hb : b = 0
  · by_cases hi : i < cells.length
    · have hc : ixS [.lst (cells.map D.int), .int i] = some (.int (gt cells i.toNat)) := atI_at h.i hi
      have hx : 0 ≤ gt cells i.toNat := by
        have : i.toNat < cells.length := by have := h.i; omega
        unfold gt
        rw [List.getD_eq_getElem?_getD, List.getElem?_eq_getElem this]
        exact h.cs _ (List.getElem_mem this)
      generalize gt cells i.toNat = x at hc hx
      have e1 := mul_at (a := m) (b := 69621) (.inr (by omega))
      have e2 := mod_at (a := m * 69621 + x + 11) (b := 2147483629) (by omega)
      have hm0 := Int.emod_nonneg (m * 69621 + x + 11) (show (2147483629 : Int) ≠ 0 by omega)
      have hm1 := Int.emod_lt_of_pos (m * 69621 + x + 11) (show (0 : Int) < 2147483629 by omega)
      generalize hm' : (m * 69621 + x + 11) % 2147483629 = m' at e2 hm0 hm1
      have hif : andT (stT (opS eqO (consS (opS ixS (consS (vS 0) (consS (cS (.int 2)) nilS))) (consS (cS (.int 0)) nilS)))) (stT (opS ltO (consS (opS ixS (consS (vS 0) (consS (cS (.int 1)) nilS))) (consS (opS lenO (consS (opS ixS (consS (vS 0) (consS (cS (.int 0)) nilS))) (nilS))) nilS)))) [some (hnd cells i b m c, 1), some (.int bd, 0), none, none, none] = .ok true [some (hnd cells i b m c, 1), some (.int bd, 0), none, none, none] := by
        simp [ixh0, ixh1, ixh2, eqO_int, hb, ltO, lenO, hi]
      have s1 := sth1 (cells := cells) (i := i) (b := b) (m := m) (c := c) (v := i + 1) (k := 0) (ρ := [some (hnd cells i b m c, 1), some (.int bd, 0), some (.int x, 0), none, none]) (f := chM (opS addO (consS (opS ixS (consS (vS 0) (consS (cS (.int 1)) nilS))) (consS (cS (.int 1)) nilS))) (opM catO (consM (chM (opS ixS (consS (vS 0) (consS (cS (.int 1)) nilS))) (opM ixO (consM (rdM 0) (consM (cM (.int 1)) nilM)))) (consM (cM (.int 1)) nilM)))) (by simp [ixh1, addO, toV]) rfl
      have s3 := sth3 (cells := cells) (i := i + 1) (b := b) (m := m) (c := c) (v := m') (k := 0) (ρ := [some (hnd cells (i + 1) b m c, 1), some (.int bd, 0), some (.int x, 0), none, none]) (f := stM (opS modO (consS (opS intO (consS (opS addO (consS (opS addO (consS (opS mulO (consS (opS ixS (consS (vS 0) (consS (cS (.int 3)) nilS))) (consS (cS (.int 69621)) nilS))) (consS (vS 2) nilS))) (consS (cS (.int 11)) nilS))) (nilS))) (consS (cS (.int 2147483629)) nilS)))) (by simp [ixh3, addO, intO, e1, e2, toV]) rfl
      have s0 : setS 2 (chM (opS ixS (consS (opS ixS (consS (vS 0) (consS (cS (.int 0)) nilS))) (consS (opS ixS (consS (vS 0) (consS (cS (.int 1)) nilS))) nilS))) (opM ixO (consM (chM (opS ixS (consS (vS 0) (consS (cS (.int 0)) nilS))) (opM ixO (consM (rdM 0) (consM (cM (.int 0)) nilM)))) (consM (chM (opS ixS (consS (vS 0) (consS (cS (.int 1)) nilS))) (opM ixO (consM (rdM 0) (consM (cM (.int 1)) nilM)))) nilM)))) [some (hnd cells i b m c, 1), some (.int bd, 0), none, none, none] = .nx [some (hnd cells i b m c, 1), some (.int bd, 0), some (.int x, 0), none, none] := by
        simp [ixh0, ixh1, hc, toV]
      by_cases hg : (10 : Int) ^ 18 ≤ x
      · refine ⟨i + 1, x, m', some (.int x, 0), ?_, h.cs, by have := h.i; omega, hx, by omega, h.c⟩
        refine (ifS_t hif).trans ((seqS_nx s0).trans ((seqS_nx s1).trans ((seqS_nx s3).trans ((ifS_t (ρ1 := [some (hnd cells (i + 1) b m' c, 1), some (.int bd, 0), some (.int x, 0), none, none]) ?_).trans ?_))))
        · simp only [stT_e, opS_e, consS_e, vS_e, cS_e, nilS_e, List.set_cons_zero, List.getElem?_cons_succ, List.getElem?_cons_zero, Option.bind_some, pow_18, geO, decide_eq_true hg]
        · exact sth2 (k := 0) (by simp) rfl
      · refine ⟨i + 1, b, m', some (.int x, 0), ?_, h.cs, by have := h.i; omega, h.b, by omega, h.c⟩
        refine (ifS_t hif).trans ((seqS_nx s0).trans ((seqS_nx s1).trans ((seqS_nx s3).trans ((ifS_f (ρ1 := [some (hnd cells (i + 1) b m' c, 1), some (.int bd, 0), some (.int x, 0), none, none]) ?_).trans ?_))))
        · simp only [stT_e, opS_e, consS_e, vS_e, cS_e, nilS_e, List.set_cons_zero, List.getElem?_cons_succ, List.getElem?_cons_zero, Option.bind_some, pow_18, geO, decide_eq_false hg]
        · rfl
    · exact ⟨i, b, m, none, by simp [ph1, ixh0, ixh1, ixh2, eqO_int, hb, ltO, lenO, hi], h⟩
  · exact ⟨i, b, m, none, by simp [ph1, ixh2, eqO_int, hb], h⟩
def mixS : M VD := stM (opS modO (consS (opS intO (consS (opS mulO (consS (opS intO (consS (opS addO (consS (opS ixS (consS (vS 0) (consS (cS (.int 3)) nilS))) (consS (opS mulO (consS (cS (.int 7919)) (consS (opS ixS (consS (vS 0) (consS (cS (.int 4)) nilS))) nilS))) nilS))) (nilS))) (consS (cS (.int 48271)) nilS))) (nilS))) (consS (cS (.int 2147483647)) nilS)))
def mixT (a z : Int) : M VD := stM (opS modO (consS (opS intO (consS (opS mulO (consS (vS 4) (consS (opS addO (consS (opS fdivO (consS (vS 4) (consS (cS (.int a)) nilS))) (consS (cS (.int 69621)) nilS))) nilS))) (nilS))) (consS (cS (.int z)) nilS)))
theorem v_draw {d : D} (hd : Hd d) {bd : Int} (hb : 0 < bd ∧ bd < 1073741824) : ∃ r d', F__law_draw d [.int bd] = .ok (.int r, 0) d' ∧ 0 ≤ r ∧ r < bd ∧ Hd d' := by
  obtain ⟨cells, i0, b0, m0, c, rfl, h0⟩ := hd
  obtain ⟨i, b, m, o2, e1, h⟩ := ph1_ok h0 bd
  have er := fun z : Int => Int.emod_nonneg z (show bd ≠ 0 by omega)
  have el := fun z : Int => Int.emod_lt_of_pos z hb.1
  by_cases hg : 0 < b
  · refine ⟨b % bd, hnd cells i (b / bd) m c, ?_, er b, el b, cells, i, b / bd, m, c, rfl, h.cs, h.i, Int.ediv_nonneg (by omega) (by omega), h.m, h.c⟩
    have s2 := sth2 (cells := cells) (i := i) (b := b) (m := m) (c := c) (v := b / bd) (k := 0) (ρ := [some (hnd cells i b m c, 1), some (.int bd, 0), o2, some (.int (b % bd), 0), none]) (f := stM (opS fdivO (consS (opS ixS (consS (vS 0) (consS (cS (.int 2)) nilS))) (consS (vS 1) nilS)))) (by simp [ixh2, fdiv_at hb, toV]) rfl
    refine runI_rt (k := 0) (ρ := [some (hnd cells i (b / bd) m c, 1), some (.int bd, 0), o2, none, none]) ((seqS_nx e1).trans (seqS_rt ((ifS_t (ρ1 := [some (hnd cells i b m c, 1), some (.int bd, 0), o2, none, none]) ?_).trans ((seqS_nx (ρ1 := [some (hnd cells i b m c, 1), some (.int bd, 0), o2, some (.int (b % bd), 0), none]) ?_).trans ((seqS_nx s2).trans ?_))))) rfl
    · simp [ixh2, gtO, hg]
    · simp [ixh2, intO, mod_at hb.1, toV]
    · simp
  · have s4 := sth4 (cells := cells) (i := i) (b := b) (m := m) (c := c) (v := c + 1) (k := 0) (ρ := [some (hnd cells i b m c, 1), some (.int bd, 0), o2, none, none]) (f := chM (opS addO (consS (opS ixS (consS (vS 0) (consS (cS (.int 4)) nilS))) (consS (cS (.int 1)) nilS))) (opM catO (consM (chM (opS ixS (consS (vS 0) (consS (cS (.int 4)) nilS))) (opM ixO (consM (rdM 0) (consM (cM (.int 4)) nilM)))) (consM (cM (.int 1)) nilM)))) (by simp [ixh4, addO, toV]) rfl
    have e3 := mul_at (a := 7919) (b := c + 1) (.inl (by omega))
    have e4 := mul_at (a := m + 7919 * (c + 1)) (b := 48271) (.inr (by omega))
    have e5 := mod_at (a := (m + 7919 * (c + 1)) * 48271) (b := 2147483647) (by omega)
    have q0 := Int.emod_nonneg ((m + 7919 * (c + 1)) * 48271) (show (2147483647 : Int) ≠ 0 by omega)
    have q1 := Int.emod_lt_of_pos ((m + 7919 * (c + 1)) * 48271) (show (0 : Int) < 2147483647 by omega)
    generalize ((m + 7919 * (c + 1)) * 48271) % 2147483647 = n1 at e5 q0 q1
    have e6 := fdiv_at (a := n1) (b := 1009) (by omega)
    have e7 := mul_at (a := n1) (b := n1 / 1009 + 69621) (.inl (by omega))
    have e8 := mod_at (a := n1 * (n1 / 1009 + 69621)) (b := 2147483647) (by omega)
    have r0 := Int.emod_nonneg (n1 * (n1 / 1009 + 69621)) (show (2147483647 : Int) ≠ 0 by omega)
    have r1 := Int.emod_lt_of_pos (n1 * (n1 / 1009 + 69621)) (show (0 : Int) < 2147483647 by omega)
    generalize (n1 * (n1 / 1009 + 69621)) % 2147483647 = n2 at e8 r0 r1
    have e9 := fdiv_at (a := n2) (b := 2003) (by omega)
    have e10 := mul_at (a := n2) (b := n2 / 2003 + 40692) (.inl (by omega))
    have e11 := mod_at (a := n2 * (n2 / 2003 + 40692)) (b := 2147483399) (by omega)
    generalize (n2 * (n2 / 2003 + 40692)) % 2147483399 = n3 at e11
    have e12 := fdiv_at (a := n3) (b := 16) (by omega)
    have e13 := mod_at (a := n3 / 16) (b := bd) hb.1
    refine ⟨n3 / 16 % bd, hnd cells i b m (c + 1), ?_, er _, el _, cells, i, b, m, c + 1, rfl, h.cs, h.i, h.b, h.m, by have := h.c; omega⟩
    refine runI_rt (k := 0) (ρ := [some (hnd cells i b m (c + 1), 1), some (.int bd, 0), o2, none, some (.int n3, 0)]) ((seqS_nx e1).trans ((seqS_nx (ρ1 := [some (hnd cells i b m c, 1), some (.int bd, 0), o2, none, none]) ?_).trans ((seqS_nx s4).trans ((seqS_nx (ρ1 := [some (hnd cells i b m (c + 1), 1), some (.int bd, 0), o2, none, some (.int n1, 0)]) ?_).trans ((seqS_nx (ρ1 := [some (hnd cells i b m (c + 1), 1), some (.int bd, 0), o2, none, some (.int n2, 0)]) ?_).trans ((seqS_nx (ρ1 := [some (hnd cells i b m (c + 1), 1), some (.int bd, 0), o2, none, some (.int n3, 0)]) ?_).trans ?_)))))) rfl
    · simp [ixh2, gtO, hg]
    · simp [ixh3, ixh4, addO, intO, e3, e4, e5, toV]
    · simp [addO, intO, e6, e7, e8, toV]
    · simp [addO, intO, e9, e10, e11, toV]
    · simp [intO, e12, e13, toV]
theorem v_any {d : D} (hd : Hd d) {ds : List D} (h0 : ds ≠ []) (h1 : ds.length < 1073741824) : ∃ x d', F__law_any d [.lst ds] = .ok (x, 0) d' ∧ x ∈ ds ∧ Hd d' := by
  have hl := List.length_pos_iff.mpr h0
  obtain ⟨r, d', e, r0, r1, hd'⟩ := v_draw hd (bd := ds.length) (by omega)
  have hr : r.toNat < ds.length := by omega
  refine ⟨ds[r.toNat], d', ?_, List.getElem_mem hr, hd'⟩
  have ha : atI ds r = some ds[r.toNat] := by rw [atI_nat r0 r1, List.getElem?_eq_getElem hr]
  refine runI_rt (k := 0) (ρ := [some (d', 1), some (.lst ds, 0)]) ?_ rfl
  simp [b__law_any, entry, lenO, toV, e, ixO, ixS, ha]
end Em
set_option Elab.async false
set_option linter.all false
set_option maxRecDepth 100000
set_option maxHeartbeats 4000000
namespace Em
open PySem L2 PyProof.Rows
inductive Odd : D → Prop
  | non : Odd .non
  | str : Odd (.str "watch")
  | dct : Odd (.dct [] [])
  | tup {o : D} : Odd o → Odd (.tup [o])
  | lst {o : D} : Odd o → Odd (.lst [o])
theorem Odd.noA {o : D} (h : Odd o) : noA o = true := by cases h <;> rfl
theorem Odd.wb {o : D} (h : Odd o) (lo hi : Int) : withB o lo hi = false := by cases h <;> rfl
theorem Odd.ok {o : D} (h : Odd o) : okD o = true := by
  cases h with
  | @tup o' h =>
    unfold okD
    rw [show Em.noA (.tup [o']) = true from rfl]
    simp [h.noA]
  | _ => rfl
theorem Odd.rota {o : D} (h : Odd o) : rotaB o = false := by
  cases h with
  | tup h => simp [rotaB, allW, h.wb]
  | _ => rfl
theorem Odd.crews {o : D} (h : Odd o) (n : Int) : crewsB o n = false := by
  cases h with
  | tup h => simp [crewsB, allW, h.wb]
  | _ => rfl
/-- one of a list drawn -/
theorem any_at {Fa : D → List D → FI} (ha : ∀ {d : D}, Hd d → ∀ {ds : List D}, ds ≠ [] → ds.length < 1073741824 → ∃ x d', Fa d [.lst ds] = .ok (x, 0) d' ∧ x ∈ ds ∧ Hd d') {i : Nat} {fs : M (List VD)} {ρ ρ1 : En} {d : D} {dk0 : VD} {its : List VD} {k : Nat}
    (h0 : ρ[i]? = some (some dk0)) (hf : fs ρ = .ok its ρ1) (h1 : ρ1[i]? = some (some (d, k + 1))) (hd : Hd d) (hn : its ≠ []) (hl : its.length ≤ 1000) :
    ∃ x d', callI Fa i (consM (opM lstO fs) nilM) ρ = .ok (x, 0) (ρ1.set i (some (d', 1))) ∧ x ∈ its.map (·.1) ∧ Hd d' := by
  obtain ⟨x, d', e, hx, hd'⟩ := ha hd (ds := its.map (·.1)) (by simpa using hn) (by rw [List.length_map]; omega)
  refine ⟨x, d', ?_, hx, hd'⟩
  unfold callI
  rw [h0]; dsimp only
  simp [hf, lstO, hl, h1, e]
abbrev AnyOk (Fa : D → List D → FI) : Prop := ∀ {d : D}, Hd d → ∀ {ds : List D}, ds ≠ [] → ds.length < 1073741824 → ∃ x d', Fa d [.lst ds] = .ok (x, 0) d' ∧ x ∈ ds ∧ Hd d'
theorem v_odd {d : D} (hd : Hd d) : ∃ o d', F__law_odd d [] = .ok (o, 0) d' ∧ Odd o ∧ Hd d' := by
  obtain ⟨o1, d1, e1, hx1, hd1⟩ := any_at (Fa := F__law_any) (fun h => v_any h) (i := 0) (fs := consM (cM .non) (consM (cM (.str "watch")) (consM (cM2 (.dct [] [], 2)) nilM))) (ρ := [some (d, 1), none, none]) (ρ1 := [some (d, 1), none, none]) (its := [(.non, 0), (.str "watch", 0), (.dct [] [], 2)]) (k := 0) rfl (by simp) rfl hd (by simp) (by simp)
  have ho1 : Odd o1 := by
    simp at hx1
    rcases hx1 with rfl | rfl | rfl
    · exact .non
    · exact .str
    · exact .dct
  obtain ⟨n, d2, e2, hx2, hd2⟩ := any_at (Fa := F__law_any) (fun h => v_any h) (i := 0) (fs := consM (cM (.int 0)) (consM (cM (.int 1)) (consM (cM (.int 18)) (consM (cM (.int 30)) nilM)))) (ρ := [some (d1, 1), some (o1, 0), none]) (ρ1 := [some (d1, 1), some (o1, 0), none]) (its := [(.int 0, 0), (.int 1, 0), (.int 18, 0), (.int 30, 0)]) (k := 0) rfl (by simp) rfl hd1 (by simp) (by simp)
  have hn : ∃ z : Int, n = .int z ∧ 0 ≤ z ∧ z ≤ 30 := by
    simp at hx2
    rcases hx2 with rfl | rfl | rfl | rfl <;> exact ⟨_, rfl, by omega, by omega⟩
  obtain ⟨z, rfl, z0, z1⟩ := hn
  obtain ⟨ρ', e3, d3, o3, x3, rfl, hd3, ho3⟩ := forL_inv (t := tgN 2) (m := setS 1 (callI F__law_any 0 (consM (opM lstO (consM (opM tupO (consM (rdM 1) nilM)) (consM (opM lstO (consM (rdM 1) nilM)) nilM))) nilM))) (fun i ρ => ∃ (d : D) (o : D) (x : Option VD), ρ = [some (d, 1), some (o, 0), x] ∧ Hd d ∧ Odd o) (rngD 0 z.toNat) 0 [some (d2, 1), some (o1, 0), none] ⟨_, _, _, rfl, hd2, ho1⟩ (by
    rintro j x ρ hj ⟨d, o, y, rfl, hd, ho⟩
    obtain ⟨r, d', e, hx, hd'⟩ := any_at (Fa := F__law_any) (fun h => v_any h) (i := 0) (fs := consM (opM tupO (consM (rdM 1) nilM)) (consM (opM lstO (consM (rdM 1) nilM)) nilM)) (ρ := [some (d, 1), some (o, 0), some (x, 0)]) (ρ1 := [some (d, 1), some (o, 0), some (x, 0)]) (its := [(.tup [o], 0), (.lst [o], 1)]) (k := 0) rfl (by simp [tupO, lstO]) rfl hd (by simp) (by simp)
    refine ⟨[some (d, 1), some (o, 0), some (x, 0)], [some (d', 1), some (r, 0), some (x, 0)], by simp [tgN], ?_, d', r, _, rfl, hd', ?_⟩
    · rw [setS_e, e]; rfl
    · simp at hx
      rcases hx with rfl | rfl
      · exact .tup ho
      · exact .lst ho)
  refine ⟨o3, d3, ?_, ho3, hd3⟩
  refine runI_rt (k := 0) (ρ := [some (d3, 1), none, x3]) ((seqS_nx (ρ1 := [some (d1, 1), some (o1, 0), none]) ?_).trans ((seqS_nx (ρ1 := [some (d3, 1), some (o3, 0), x3]) ?_).trans ?_)) rfl
  · show setS 1 _ [some (d, 1), none, none] = _
    rw [setS_e, e1]; rfl
  · rw [forS_at (opI_at (ρ1 := [some (d2, 1), some (o1, 0), none]) (ds := [(.int z, 0)]) ?_ (rng1_at ⟨by omega, by omega⟩)), e3]
    rw [consM_e, e2]; rfl
  · simp
/-- a comprehension that draws -/
theorem compM_io {fi : M (List D)} {t : D → En → Option En} {tt : M Bool} {te : M VD} {vs : List Nat} {ρ ρ1 : En} {ds : List D} (P : Nat → List VD → En → Prop) (hfi : fi ρ = .ok ds ρ1) (hlen : ds.length ≤ 1000000) (hown : ownOk ρ1 vs = true) (h0 : P 0 [] (wipeE ρ1 vs))
    (st : ∀ j d acc ρ, ds[j]? = some d → P j acc ρ → ∃ ρa ρb, t d ρ = some ρa ∧ ((tt ρa = .ok true ρb ∧ ∃ y ρc, te ρb = .ok y ρc ∧ P (j + 1) (acc ++ [y]) (wipeE ρc vs)) ∨ (tt ρa = .ok false ρb ∧ P (j + 1) acc (wipeE ρb vs)))) :
    ∃ acc ρ2, compM fi t tt te vs 0 ρ = .ok (.lst (acc.map (·.1)), 1) (restE ρ2 ρ1 vs) ∧ P ds.length acc ρ2 := by
  obtain ⟨acc, ρ2, e, hp⟩ := compL_inv (t := t) (tt := tt) (te := te) (vs := vs) P ds 0 [] (wipeE ρ1 vs) h0 fun j d acc ρ hj hp => by
    rw [Nat.zero_add] at hp ⊢
    exact st j d acc ρ hj hp
  rw [Nat.zero_add] at hp
  refine ⟨acc, ρ2, ?_, hp⟩
  unfold compM
  rw [hfi]; dsimp only
  rw [if_pos ⟨hlen, hown⟩, e]
def NT (rs : List Int) : D := .ntp (rs.map .int)
theorem v_rota {d : D} (hd : Hd d) : ∃ rs cs d', F__law_rota d [] = .ok (.tup [NT rs, T cs], 0) d' ∧ RotaV rs ∧ CrewV cs rs.length ∧ Hd d' := by
  obtain ⟨n, d1, e1, n0, n1, hd1⟩ := v_draw hd (bd := 9) (by omega)
  have c1 := compM_io (fi := opI rng1O (consM (opM catO (consM (cM (.int 1)) (consM (callI F__law_draw 0 (consM (cM (.int 9)) (nilM))) nilM))) (nilM))) (t := tgN 3) (tt := yesM) (te := callI F__law_any 0 (consM (opM lstO (consM (cM (.int 0)) (consM (cM (.int 0)) (consM (cM (.int 1)) (consM (cM (.int 2)) (nilM)))))) (nilM))) (vs := [3]) (ρ := [some (d, 1), none, none, none, none]) (ρ1 := [some (d1, 1), none, none, none, none]) (ds := rngD 0 (1 + n).toNat)
    (fun i acc ρ => ∃ d : D, ρ = [some (d, 1), none, none, none, none] ∧ Hd d ∧ ∃ rs : List Int, acc.map (·.1) = rs.map .int ∧ rs.length = i ∧ ∀ r ∈ rs, 0 ≤ r ∧ r ≤ 2)
    (opI_at (ds := [(.int (1 + n), 0)]) (by simp [e1, catO]) (rng1_at ⟨by omega, by omega⟩)) (by rw [rngD_len]; omega) rfl ⟨d1, rfl, hd1, [], rfl, rfl, by simp⟩ (by
      rintro j x acc ρ hj ⟨dd, rfl, hdd, rs, ea, hl, hv⟩
      obtain ⟨y, d', e, hy, hd'⟩ := any_at (Fa := F__law_any) (fun h => v_any h) (i := 0) (fs := consM (cM (.int 0)) (consM (cM (.int 0)) (consM (cM (.int 1)) (consM (cM (.int 2)) nilM)))) (ρ := [some (dd, 1), none, none, some (x, 0), none]) (ρ1 := [some (dd, 1), none, none, some (x, 0), none]) (its := [(.int 0, 0), (.int 0, 0), (.int 1, 0), (.int 2, 0)]) (k := 0) rfl (by simp) rfl hdd (by simp) (by simp)
      have hyz : ∃ z : Int, y = .int z ∧ 0 ≤ z ∧ z ≤ 2 := by
        simp at hy
        rcases hy with rfl | rfl | rfl <;> exact ⟨_, rfl, by omega, by omega⟩
      obtain ⟨z, rfl, z0, z1⟩ := hyz
      refine ⟨[some (dd, 1), none, none, some (x, 0), none], [some (dd, 1), none, none, some (x, 0), none], rfl, .inl ⟨rfl, (.int z, 0), [some (d', 1), none, none, some (x, 0), none], e, d', rfl, hd', rs ++ [z], by simp [ea], by simp [hl], fun r hr => ?_⟩⟩
      rcases List.mem_append.mp hr with hr | hr
      · exact hv r hr
      · rw [List.mem_singleton.mp hr]; exact ⟨z0, z1⟩)
  obtain ⟨acc, ρ2, c1, d2, rfl, hd2, rs, ea, hl, hv⟩ := c1
  rw [rngD_len] at hl
  rw [ea] at c1
  have hrl : 1 ≤ rs.length ∧ rs.length ≤ 9 := by omega
  have hrv : RotaV rs := ⟨hrl.1, by omega, hv⟩
  obtain ⟨m, d3, e3, m0, m1, hd3⟩ := v_draw hd2 (bd := 5) (by omega)
  have c2 := compM_io (fi := opI rng1O (consM (opM catO (consM (cM (.int 1)) (consM (callI F__law_draw 0 (consM (cM (.int 5)) (nilM))) nilM))) (nilM))) (t := tgN 4) (tt := yesM) (te := callI F__law_draw 0 (consM (stM (opS lenO (consS (ntS (vS 1)) (nilS)))) (nilM))) (vs := [4]) (ρ := [some (d2, 1), some (NT rs, 0), none, none, none]) (ρ1 := [some (d3, 1), some (NT rs, 0), none, none, none]) (ds := rngD 0 (1 + m).toNat)
    (fun i acc ρ => ∃ d : D, ρ = [some (d, 1), some (NT rs, 0), none, none, none] ∧ Hd d ∧ ∃ cs : List Int, acc.map (·.1) = cs.map .int ∧ cs.length = i ∧ ∀ r ∈ cs, 0 ≤ r ∧ r ≤ (rs.length : Int) - 1)
    (opI_at (ds := [(.int (1 + m), 0)]) (by simp [e3, catO]) (rng1_at ⟨by omega, by omega⟩)) (by rw [rngD_len]; omega) rfl ⟨d3, rfl, hd3, [], rfl, rfl, by simp⟩ (by
      rintro j x acc ρ hj ⟨dd, rfl, hdd, cs, ea, hl, hv⟩
      obtain ⟨y, d', e, y0, y1, hd'⟩ := v_draw hdd (bd := rs.length) (by omega)
      refine ⟨[some (dd, 1), some (NT rs, 0), none, none, some (x, 0)], [some (dd, 1), some (NT rs, 0), none, none, some (x, 0)], rfl, .inl ⟨rfl, (.int y, 0), [some (d', 1), some (NT rs, 0), none, none, some (x, 0)], ?_, d', rfl, hd', cs ++ [y], by simp [ea], by simp [hl], fun r hr => ?_⟩⟩
      · simp [NT, ntD, lenO, toV, e]
      · rcases List.mem_append.mp hr with hr | hr
        · exact hv r hr
        · rw [List.mem_singleton.mp hr]; omega)
  obtain ⟨acc2, ρ3, c2, d4, rfl, hd4, cs, ea2, hl2, hv2⟩ := c2
  rw [rngD_len] at hl2
  rw [ea2] at c2
  refine ⟨rs, cs, d4, ?_, hrv, ⟨by omega, by omega, hv2⟩, hd4⟩
  refine runI_rt (k := 0) (ρ := [some (d4, 1), some (NT rs, 0), some (T cs, 0), none, none]) ((seqS_nx (ρ1 := [some (d2, 1), some (NT rs, 0), none, none, none]) ?_).trans ((seqS_nx (ρ1 := [some (d4, 1), some (NT rs, 0), some (T cs, 0), none, none]) ?_).trans ?_)) rfl
  · show setS 1 _ [some (d, 1), none, none, none, none] = _
    rw [setS_e, opM_e, consM_e, c1]; rfl
  · rw [setS_e, opM_e, consM_e, c2]; rfl
  · simp [tupO]
end Em
set_option Elab.async false
set_option linter.all false
set_option maxRecDepth 100000
set_option maxHeartbeats 4000000
namespace Em
open PySem L2 PyProof.Rows
abbrev G3 : D := .tup [.int 1, .int 2, .int 0]
abbrev C2 : D := .tup [.int 0, .int 1]
theorem g3v : RotaV [1, 2, 0] := ⟨by decide, by decide, by decide⟩
theorem c2v : CrewV [0, 1] ([1, 2, 0] : List Int).length := ⟨by decide, by decide, by decide⟩
theorem cc_g3 {c : D} (h : okD c = true) (hc : crewsB c 3 = false) : F_check_crews [G3, c] = .ex "NoCrews" := by
  have := v_check_crews (rs := [.int 1, .int 2, .int 0]) (c := c) rfl (rotaB_T g3v) h
  rw [show crewsB c (([.int 1, .int 2, .int 0] : List D).length : Int) = false from hc] at this
  exact this
theorem cc_ok : F_check_crews [G3, C2] = .ok (.non, 0) := v_cc g3v c2v
theorem rr1 {b c k d : D} (h : okD b = true) (hr : rotaB b = false) : F_watch_at [b, c, k, d] = .ex "NoRota" := by
  simp [F_watch_at, runP, b_watch_at, entry, v_check_crews_no h hr]
theorem rr2 {c k d : D} (h : okD c = true) (hc : crewsB c 3 = false) : F_watch_at [G3, c, k, d] = .ex "NoCrews" := by
  simp [F_watch_at, runP, b_watch_at, entry, cc_g3 h hc]
theorem rr3 {k d : D} (h : noA k = true) (hk : withB k 0 1 = false) : F_watch_at [G3, C2, k, d] = .ex "NoCrew" := by
  have e := v_check_crew (cs := [.int 0, .int 1]) h
  rw [show withB k 0 ((([.int 0, .int 1] : List D).length : Int) - 1) = false from hk] at e
  have e' : F_check_crew [C2, k] = .ex "NoCrew" := e
  simp [F_watch_at, runP, b_watch_at, entry, cc_ok, e']
theorem day_no {d : D} (h : noA d = true) (hd : withB d 0 1000000 = false) : F_check_day [d] = .ex "NoDay" := by
  rw [v_check_day h, hd]; rfl
theorem rr4 {d : D} (h : noA d = true) (hd : withB d 0 1000000 = false) : F_watch_at [G3, C2, .int 1, d] = .ex "NoDay" := by
  have e := v_check_crew (cs := [.int 0, .int 1]) (d := .int 1) rfl
  have e' : F_check_crew [C2, .int 1] = .ok (.non, 0) := e
  simp [F_watch_at, runP, b_watch_at, entry, cc_ok, e', day_no h hd]
theorem rr5 {b c k d : D} (h : okD b = true) (hr : rotaB b = false) : F_on_duty [b, c, k, d] = .ex "NoRota" := by
  simp [F_on_duty, runP, b_on_duty, entry, v_check_crews_no h hr]
theorem rr6 {c k d : D} (h : okD c = true) (hc : crewsB c 3 = false) : F_on_duty [G3, c, k, d] = .ex "NoCrews" := by
  simp [F_on_duty, runP, b_on_duty, entry, cc_g3 h hc]
theorem rr7 {d k : D} (h : noA d = true) (hd : withB d 0 1000000 = false) : F_on_duty [G3, C2, d, k] = .ex "NoDay" := by
  simp [F_on_duty, runP, b_on_duty, entry, cc_ok, day_no h hd]
theorem day_1 : F_check_day [.int 1] = .ok (.non, 0) := by
  have := v_check_day (d := .int 1) rfl
  rw [withB_int ⟨by omega, by omega⟩] at this
  exact this
theorem rr8 {k : D} (h : noA k = true) (hk : withB k 1 2 = false) : F_on_duty [G3, C2, .int 1, k] = .ex "NoKind" := by
  simp [F_on_duty, runP, b_on_duty, entry, cc_ok, day_1, k_DAY_WATCH, k_NIGHT_WATCH, v_is_within h, hk]
theorem rr9 {b c : D} (h : okD b = true) (hr : rotaB b = false) : F_manned [b, c] = .ex "NoRota" := by
  simp [F_manned, runP, b_manned, entry, v_check_crews_no h hr]
theorem rr10 {c : D} (h : okD c = true) (hc : crewsB c 3 = false) : F_manned [G3, c] = .ex "NoCrews" := by
  simp [F_manned, runP, b_manned, entry, cc_g3 h hc]
theorem rr11 {b : D} (h : okD b = true) (hr : rotaB b = false) : F_least_rest [b] = .ex "NoRota" := by
  simp [F_least_rest, runP, b_least_rest, entry, v_check_rota h, hr]
def RW (hd : D) (ws : List D) (bad crew crews day kind : D) : En := [some (hd, 1), some (.lst ws, 1), none, some (bad, 0), some (crew, 0), some (crews, 0), some (day, 0), some (G3, 0), some (kind, 0)]
def RM (bad crew crews day kind : D) : En := [none, none, none, some (bad, 0), some (crew, 0), some (crews, 0), some (day, 0), some (G3, 0), some (kind, 0)]
theorem stepW {hd bad crew crews day kind : D} {ws : List D} {cap : List Nat} {f : M VD} {x s : Str} (hc : frzAll cap (RW hd ws bad crew crews day kind) = RW hd ws bad crew crews day kind) (hf : f (RM bad crew crews day kind) = .ex x) (hw : wf x = some s) (hl : ws.length < 100) :
    appS 1 (lamM cap wf "let" f) (RW hd ws bad crew crews day kind) = .nx (RW hd (ws ++ [.str s]) bad crew crews day kind) := by
  have e : lamM cap wf "let" f (RW hd ws bad crew crews day kind) = .ok (.str s, 0) (RW hd ws bad crew crews day kind) := by
    unfold lamM
    rw [hc, show mask (RW hd ws bad crew crews day kind) = RM bad crew crews day kind from rfl, hf]; dsimp only
    rw [hw]
  unfold appS
  rw [show (RW hd ws bad crew crews day kind)[1]? = some (some (.lst ws, 1)) from rfl]; dsimp only
  rw [e]; dsimp only
  rw [show (RW hd ws bad crew crews day kind)[1]? = some (some (.lst ws, 1)) from rfl]; dsimp only
  rw [if_pos (by omega)]
  rfl
theorem repT_at {xs : List D} {n : Int} {a b : Nat} (h : 2 ≤ n ∧ n ≤ 1000 ∧ xs.length ≤ 1000 ∧ xs ≠ []) : repO [(.tup xs, a), (.int n, b)] = some (.tup (List.replicate n.toNat xs).flatten, 0) := if_pos h
theorem rep29 : repO [(.tup [.int 0], 0), (.int 29, 0)] = some (.tup (List.replicate 29 (.int 0)), 0) := repT_at ⟨by decide, by decide, by decide, by simp⟩
theorem rep9 : repO [(.tup [.int 0], 0), (.int 9, 0)] = some (.tup (List.replicate 9 (.int 0)), 0) := repT_at ⟨by decide, by decide, by decide, by simp⟩
theorem neg1 : negO [.int 1] = some (.int (-1)) := rfl
theorem eqO_at {d e : D} {b : Bool} (h1 : SeqAt.shaped (toP d) = true) (h2 : SeqAt.shaped (toP e) = true) (h3 : PyData.eqv (toP d) (toP e) = b) : eqO [d, e] = some (.bl b) := by
  show (if SeqAt.shaped (toP d) = true ∧ SeqAt.shaped (toP e) = true then some (D.bl (PyData.eqv (toP d) (toP e))) else none) = _
  rw [if_pos ⟨h1, h2⟩, h3]
theorem neO_at {d e : D} {b : Bool} (h1 : SeqAt.shaped (toP d) = true) (h2 : SeqAt.shaped (toP e) = true) (h3 : PyData.eqv (toP d) (toP e) = b) : neO [d, e] = some (.bl (!b)) := by
  show (if SeqAt.shaped (toP d) = true ∧ SeqAt.shaped (toP e) = true then some (D.bl (!PyData.eqv (toP d) (toP e))) else none) = _
  rw [if_pos ⟨h1, h2⟩, h3]
theorem v_refused {d : D} (hd : Hd d) : ∃ d', F__law_refused_right d [] = .ok (.bl true, 0) d' ∧ Hd d' := by
  -- bad
  obtain ⟨o1, d1, e1, ho1, hd1⟩ := v_odd hd
  obtain ⟨bad, d2, a1, hx1, hd2⟩ := any_at (Fa := F__law_any) (fun h => v_any h) (i := 0) (fs := consM (cM .non) (consM (opM tupO (nilM)) (consM (opM lstO (consM (cM (.int 1)) (consM (cM (.int 2)) (nilM)))) (consM (opM tupO (consM (cM (.int 3)) (nilM))) (consM (opM tupO (consM (stM (opS negO (consS (cS (.int 1)) nilS))) (nilM))) (consM (opM tupO (consM (cM (.bl true)) (nilM))) (consM (opM repO (consM (opM tupO (consM (cM (.int 0)) (nilM))) (consM (cM (.int 29)) nilM))) (consM (cM (.str "12")) (consM (cM (.int 7)) (consM (callI F__law_odd 0 (nilM)) (nilM)))))))))))
    (ρ := [some (d, 1), none, none, none, none, none, none, none, none]) (ρ1 := [some (d1, 1), none, none, none, none, none, none, none, none]) (its := [(.non, 0), (.tup [], 0), (.lst [.int 1, .int 2], 1), (.tup [.int 3], 0), (.tup [.int (-1)], 0), (.tup [.bl true], 0), (.tup (List.replicate 29 (.int 0)), 0), (.str "12", 0), (.int 7, 0), (o1, 0)]) (k := 0) rfl (by simp [tupO, lstO, neg1, toV, rep29, e1]) rfl hd1 (by simp) (by simp)
  have hb : okD bad = true ∧ rotaB bad = false := by
    simp only [List.map_cons, List.map_nil, List.mem_cons, List.not_mem_nil, or_false] at hx1
    rcases hx1 with rfl | rfl | rfl | rfl | rfl | rfl | rfl | rfl | rfl | rfl
    · exact ⟨rfl, rfl⟩
    · exact ⟨rfl, by decide +kernel⟩
    · exact ⟨rfl, rfl⟩
    · exact ⟨rfl, by decide +kernel⟩
    · exact ⟨rfl, by decide +kernel⟩
    · exact ⟨rfl, by decide +kernel⟩
    · exact ⟨rfl, by decide +kernel⟩
    · exact ⟨rfl, rfl⟩
    · exact ⟨rfl, rfl⟩
    · exact ⟨ho1.ok, ho1.rota⟩
  -- crews
  obtain ⟨o2, d3, e2, ho2, hd3⟩ := v_odd hd2
  obtain ⟨crews, d4, a2, hx2, hd4⟩ := any_at (Fa := F__law_any) (fun h => v_any h) (i := 0) (fs := consM (cM .non) (consM (opM tupO (nilM)) (consM (opM lstO (consM (cM (.int 0)) (nilM))) (consM (opM tupO (consM (cM (.int 3)) (nilM))) (consM (opM tupO (consM (stM (opS negO (consS (cS (.int 1)) nilS))) (nilM))) (consM (opM tupO (consM (cM (.bl true)) (nilM))) (consM (opM repO (consM (opM tupO (consM (cM (.int 0)) (nilM))) (consM (cM (.int 9)) nilM))) (consM (cM (.int 0)) (consM (callI F__law_odd 0 (nilM)) (nilM))))))))))
    (ρ := [some (d2, 1), none, none, some (bad, 0), none, none, none, some (G3, 0), none]) (ρ1 := [some (d3, 1), none, none, some (bad, 0), none, none, none, some (G3, 0), none]) (its := [(.non, 0), (.tup [], 0), (.lst [.int 0], 1), (.tup [.int 3], 0), (.tup [.int (-1)], 0), (.tup [.bl true], 0), (.tup (List.replicate 9 (.int 0)), 0), (.int 0, 0), (o2, 0)]) (k := 0) rfl (by simp [tupO, lstO, neg1, toV, rep9, e2]) rfl hd3 (by simp) (by simp)
  have hc : okD crews = true ∧ crewsB crews 3 = false := by
    simp only [List.map_cons, List.map_nil, List.mem_cons, List.not_mem_nil, or_false] at hx2
    rcases hx2 with rfl | rfl | rfl | rfl | rfl | rfl | rfl | rfl | rfl
    · exact ⟨rfl, rfl⟩
    · exact ⟨rfl, by decide +kernel⟩
    · exact ⟨rfl, rfl⟩
    · exact ⟨rfl, by decide +kernel⟩
    · exact ⟨rfl, by decide +kernel⟩
    · exact ⟨rfl, by decide +kernel⟩
    · exact ⟨rfl, by decide +kernel⟩
    · exact ⟨rfl, rfl⟩
    · exact ⟨ho2.ok, ho2.crews 3⟩
  -- crew
  obtain ⟨o3, d5, e3, ho3, hd5⟩ := v_odd hd4
  obtain ⟨crew, d6, a3, hx3, hd6⟩ := any_at (Fa := F__law_any) (fun h => v_any h) (i := 0) (fs := consM (cM .non) (consM (stM (opS negO (consS (cS (.int 1)) nilS))) (consM (cM (.int 2)) (consM (cM (.bl true)) (consM (cM (.str "0")) (consM (callI F__law_odd 0 (nilM)) (nilM)))))))
    (ρ := [some (d4, 1), none, none, some (bad, 0), none, some (crews, 0), none, some (G3, 0), none]) (ρ1 := [some (d5, 1), none, none, some (bad, 0), none, some (crews, 0), none, some (G3, 0), none]) (its := [(.non, 0), (.int (-1), 0), (.int 2, 0), (.bl true, 0), (.str "0", 0), (o3, 0)]) (k := 0) rfl (by simp [neg1, toV, e3]) rfl hd5 (by simp) (by simp)
  have hk : noA crew = true ∧ withB crew 0 1 = false := by
    simp only [List.map_cons, List.map_nil, List.mem_cons, List.not_mem_nil, or_false] at hx3
    rcases hx3 with rfl | rfl | rfl | rfl | rfl | rfl
    · exact ⟨rfl, rfl⟩
    · exact ⟨rfl, by decide +kernel⟩
    · exact ⟨rfl, by decide +kernel⟩
    · exact ⟨rfl, rfl⟩
    · exact ⟨rfl, rfl⟩
    · exact ⟨ho3.noA, ho3.wb _ _⟩
  -- day
  obtain ⟨o4, d7, e4, ho4, hd7⟩ := v_odd hd6
  obtain ⟨day, d8, a4, hx4, hd8⟩ := any_at (Fa := F__law_any) (fun h => v_any h) (i := 0) (fs := consM (cM .non) (consM (stM (opS negO (consS (cS (.int 1)) nilS))) (consM (cM (.int 1000001)) (consM (cM (.bl true)) (consM (cM (.str "0")) (consM (callI F__law_odd 0 (nilM)) (nilM)))))))
    (ρ := [some (d6, 1), none, none, some (bad, 0), some (crew, 0), some (crews, 0), none, some (G3, 0), none]) (ρ1 := [some (d7, 1), none, none, some (bad, 0), some (crew, 0), some (crews, 0), none, some (G3, 0), none]) (its := [(.non, 0), (.int (-1), 0), (.int 1000001, 0), (.bl true, 0), (.str "0", 0), (o4, 0)]) (k := 0) rfl (by simp [neg1, toV, e4]) rfl hd7 (by simp) (by simp)
  have hy : noA day = true ∧ withB day 0 1000000 = false := by
    simp only [List.map_cons, List.map_nil, List.mem_cons, List.not_mem_nil, or_false] at hx4
    rcases hx4 with rfl | rfl | rfl | rfl | rfl | rfl
    · exact ⟨rfl, rfl⟩
    · exact ⟨rfl, by decide +kernel⟩
    · exact ⟨rfl, by decide +kernel⟩
    · exact ⟨rfl, rfl⟩
    · exact ⟨rfl, rfl⟩
    · exact ⟨ho4.noA, ho4.wb _ _⟩
  -- kind
  obtain ⟨o5, d9, e5, ho5, hd9⟩ := v_odd hd8
  obtain ⟨kind, dA, a5, hx5, hdA⟩ := any_at (Fa := F__law_any) (fun h => v_any h) (i := 0) (fs := consM (cM .non) (consM (cM (.int 0)) (consM (cM (.int 3)) (consM (cM (.bl true)) (consM (cM (.str "1")) (consM (callI F__law_odd 0 (nilM)) (nilM)))))))
    (ρ := [some (d8, 1), none, none, some (bad, 0), some (crew, 0), some (crews, 0), some (day, 0), some (G3, 0), none]) (ρ1 := [some (d9, 1), none, none, some (bad, 0), some (crew, 0), some (crews, 0), some (day, 0), some (G3, 0), none]) (its := [(.non, 0), (.int 0, 0), (.int 3, 0), (.bl true, 0), (.str "1", 0), (o5, 0)]) (k := 0) rfl (by simp [e5]) rfl hd9 (by simp) (by simp)
  have hq : noA kind = true ∧ withB kind 1 2 = false := by
    simp only [List.map_cons, List.map_nil, List.mem_cons, List.not_mem_nil, or_false] at hx5
    rcases hx5 with rfl | rfl | rfl | rfl | rfl | rfl
    · exact ⟨rfl, rfl⟩
    · exact ⟨rfl, by decide +kernel⟩
    · exact ⟨rfl, by decide +kernel⟩
    · exact ⟨rfl, rfl⟩
    · exact ⟨rfl, rfl⟩
    · exact ⟨ho5.noA, ho5.wb _ _⟩
  clear hx1 hx2 hx3 hx4 hx5
  refine ⟨dA, ?_, hdA⟩
  have w1 : opM lstO (consM (lamM [3, 4, 5, 6] wf "let" (callM F_watch_at (consM (rdM 3) (consM (rdM 5) (consM (rdM 4) (consM (rdM 6) (nilM))))))) nilM) [some (dA, 1), none, none, some (bad, 0), some (crew, 0), some (crews, 0), some (day, 0), some (G3, 0), some (kind, 0)] = .ok (.lst [.str "rota"], 1) [some (dA, 1), none, none, some (bad, 0), some (crew, 0), some (crews, 0), some (day, 0), some (G3, 0), some (kind, 0)] := by
    have e : lamM [3, 4, 5, 6] wf "let" (callM F_watch_at (consM (rdM 3) (consM (rdM 5) (consM (rdM 4) (consM (rdM 6) (nilM)))))) [some (dA, 1), none, none, some (bad, 0), some (crew, 0), some (crews, 0), some (day, 0), some (G3, 0), some (kind, 0)] = .ok (.str "rota", 0) [some (dA, 1), none, none, some (bad, 0), some (crew, 0), some (crews, 0), some (day, 0), some (G3, 0), some (kind, 0)] := by
      unfold lamM
      rw [show frzAll [3, 4, 5, 6] [some (dA, 1), none, none, some (bad, 0), some (crew, 0), some (crews, 0), some (day, 0), some (G3, 0), some (kind, 0)] = [some (dA, 1), none, none, some (bad, 0), some (crew, 0), some (crews, 0), some (day, 0), some (G3, 0), some (kind, 0)] from rfl]
      rw [show callM F_watch_at (consM (rdM 3) (consM (rdM 5) (consM (rdM 4) (consM (rdM 6) (nilM))))) (mask [some (dA, 1), none, none, some (bad, 0), some (crew, 0), some (crews, 0), some (day, 0), some (G3, 0), some (kind, 0)]) = .ex "NoRota" by simp [mask, maskO, rr1 hb.1 hb.2]]
      rfl
    rw [opM_e, consM_e, e]; rfl
  refine runI_rt (k := 0) (ρ := [some (dA, 1), some (.lst [.str "rota", .str "crews", .str "crew", .str "day", .str "rota", .str "crews", .str "day", .str "kind", .str "rota", .str "crews", .str "rota"], 1), some (.lst [.str "rota", .str "crews", .str "crew", .str "day", .str "rota", .str "crews", .str "day", .str "kind", .str "rota", .str "crews", .str "rota"], 1), some (bad, 0), some (crew, 0), some (crews, 0), some (day, 0), some (G3, 0), some (kind, 0)]) ?_ rfl
  refine (seqS_nx (ρ1 := [some (d2, 1), none, none, some (bad, 0), none, none, none, none, none]) (show setS 3 _ [some (d, 1), none, none, none, none, none, none, none, none] = _ by rw [setS_e, a1]; rfl)).trans ?_
  refine (seqS_nx (ρ1 := [some (d2, 1), none, none, some (bad, 0), none, none, none, some (G3, 0), none]) (by simp [tupO])).trans ?_
  refine (seqS_nx (ρ1 := [some (d4, 1), none, none, some (bad, 0), none, some (crews, 0), none, some (G3, 0), none]) (by rw [setS_e, a2]; rfl)).trans ?_
  refine (seqS_nx (ρ1 := [some (d6, 1), none, none, some (bad, 0), some (crew, 0), some (crews, 0), none, some (G3, 0), none]) (by rw [setS_e, a3]; rfl)).trans ?_
  refine (seqS_nx (ρ1 := [some (d8, 1), none, none, some (bad, 0), some (crew, 0), some (crews, 0), some (day, 0), some (G3, 0), none]) (by rw [setS_e, a4]; rfl)).trans ?_
  refine (seqS_nx (ρ1 := [some (dA, 1), none, none, some (bad, 0), some (crew, 0), some (crews, 0), some (day, 0), some (G3, 0), some (kind, 0)]) (by rw [setS_e, a5]; rfl)).trans ?_
  refine (seqS_nx (ρ1 := RW dA [.str "rota"] bad crew crews day kind) (by rw [setS_e, w1]; rfl)).trans ?_
  refine (seqS_nx (stepW (x := "NoCrews") (s := "crews") rfl (by simp [RM, rr2 hc.1 hc.2]) rfl (by simp))).trans ?_
  refine (seqS_nx (stepW (x := "NoCrew") (s := "crew") rfl (by simp [RM, tupO, rr3 hk.1 hk.2]) rfl (by simp))).trans ?_
  refine (seqS_nx (stepW (x := "NoDay") (s := "day") rfl (by simp [RM, tupO, rr4 hy.1 hy.2]) rfl (by simp))).trans ?_
  refine (seqS_nx (stepW (x := "NoRota") (s := "rota") rfl (by simp [RM, rr5 hb.1 hb.2]) rfl (by simp))).trans ?_
  refine (seqS_nx (stepW (x := "NoCrews") (s := "crews") rfl (by simp [RM, rr6 hc.1 hc.2]) rfl (by simp))).trans ?_
  refine (seqS_nx (stepW (x := "NoDay") (s := "day") rfl (by simp [RM, tupO, rr7 hy.1 hy.2]) rfl (by simp))).trans ?_
  refine (seqS_nx (stepW (x := "NoKind") (s := "kind") rfl (by simp [RM, tupO, rr8 hq.1 hq.2]) rfl (by simp))).trans ?_
  refine (seqS_nx (stepW (x := "NoRota") (s := "rota") rfl (by simp [RM, rr9 hb.1 hb.2]) rfl (by simp))).trans ?_
  refine (seqS_nx (stepW (x := "NoCrews") (s := "crews") rfl (by simp [RM, rr10 hc.1 hc.2]) rfl (by simp))).trans ?_
  refine (seqS_nx (stepW (x := "NoRota") (s := "rota") rfl (by simp [RM, rr11 hb.1 hb.2]) rfl (by simp))).trans ?_
  refine (seqS_nx (ρ1 := [some (dA, 1), some (.lst [.str "rota", .str "crews", .str "crew", .str "day", .str "rota", .str "crews", .str "day", .str "kind", .str "rota", .str "crews", .str "rota"], 1), some (.lst [.str "rota", .str "crews", .str "crew", .str "day", .str "rota", .str "crews", .str "day", .str "kind", .str "rota", .str "crews", .str "rota"], 1), some (bad, 0), some (crew, 0), some (crews, 0), some (day, 0), some (G3, 0), some (kind, 0)]) rfl).trans ?_
  have hE : eqO [.lst [.str "rota", .str "crews", .str "crew", .str "day", .str "rota", .str "crews", .str "day", .str "kind", .str "rota", .str "crews", .str "rota"], .lst [.str "rota", .str "crews", .str "crew", .str "day", .str "rota", .str "crews", .str "day", .str "kind", .str "rota", .str "crews", .str "rota"]] = some (.bl true) := eqO_at (by decide +kernel) (by decide +kernel) (by decide +kernel)
  have hF := v_is_rota hb.1
  rw [hb.2] at hF
  simp [hE, toV, hF, isO]
end Em
set_option Elab.async false
set_option linter.all false
set_option maxRecDepth 100000
set_option maxHeartbeats 4000000
namespace Em
open PySem L2 PyProof.Rows
theorem v_on_duty {rs cs : List Int} (h : RotaV rs) (hc : CrewV cs rs.length) {d k : Int} (hd : 0 ≤ d ∧ d ≤ 1000000) (hk : 1 ≤ k ∧ k ≤ 2) : F_on_duty [T rs, T cs, .int d, .int k] = .ok (T (duty rs cs d k), 0) := by
  have e2 := v_check_day (d := .int d) rfl
  rw [withB_int hd] at e2
  have e3 := v_is_within (d := .int k) rfl 1 2
  rw [withB_int hk] at e3
  have h2 := hc.l1
  simp [F_on_duty, runP, b_on_duty, entry, v_cc h hc, e2, k_DAY_WATCH, k_NIGHT_WATCH, e3, v_duty_lot h.ne (show cs.length ≤ 1000000 by omega)]
theorem lay_ints : ∀ xs : List Int, PyData.canLayAll0 (toPs (xs.map .int)) = true
  | [] => rfl
  | x :: r => by
    show (PyData.canLay0 (.int x) && PyData.canLayAll0 (toPs (r.map .int))) = true
    rw [lay_ints r]; rfl
theorem eqv_ints : ∀ xs : List Int, PyData.eqvAll (toPs (xs.map .int)) (toPs (xs.map .int)) = true
  | [] => rfl
  | x :: r => by
    show (PyData.eqv (.int x) (.int x) && PyData.eqvAll (toPs (r.map .int)) (toPs (r.map .int))) = true
    rw [eqv_ints r]
    simp [PyData.eqv]
theorem depth_ints : ∀ xs : List Int, PyData.depthAll (toPs (xs.map .int)) ≤ 1
  | [] => by simp [toPs, PyData.depthAll]
  | x :: r => by
    have := depth_ints r
    simp only [List.map_cons, toPs, toP, PyData.depthAll, PyData.depth]
    omega
theorem shaped_T (xs : List Int) : SeqAt.shaped (toP (T xs)) = true := by
  unfold SeqAt.shaped
  rw [Bool.and_eq_true]
  refine ⟨lay_ints xs, decide_eq_true ?_⟩
  have := depth_ints xs
  show PyData.depth (.tuple (toPs (xs.map .int))) ≤ 64
  simp only [PyData.depth]
  omega
theorem neO_T (xs : List Int) : neO [T xs, T xs] = some (.bl false) := neO_at (shaped_T xs) (shaped_T xs) (eqv_ints xs)
theorem neO_opt (o : Option Int) : neO [optD o, optD o] = some (.bl false) := by
  cases o with
  | none => exact neO_at rfl rfl rfl
  | some i => show neO [.int i, .int i] = _; rw [neO_int]; simp
@[simp] theorem ntD_NT (rs : List Int) : ntD (NT rs) = T rs := rfl
/-- the state of the law's loop behind the draws -/
def V (s0 : Option VD) (d : D) (kn fo lap : Option VD) (rs cs : List Int) (k dy : Int) (o9 o10 o11 o12 o13 o14 : Option VD) : En :=
  [s0, some (d, 1), kn, fo, lap, some (NT rs, 0), some (T cs, 0), some (.int k, 0), some (.int dy, 0), o9, o10, o11, o12, o13, o14, none]
section
variable {s0 kn fo lap o9 o10 o11 o12 o13 o14 : Option VD} {d : D} {rs cs : List Int} {k dy : Int} {Fw Fl : List D → FR}
theorem a1 {x : Int} (h1 : Fw [T rs, T cs, .int k, .int dy] = .ok (.int x, 0)) (h2 : Fl [T rs, T cs, .int k, .int dy] = .ok (.int x, 0)) :
    ifS (valT (opM (liftO neO) (consM (callM Fw (consM (ntM (rdM 5)) (consM (rdM 6) (consM (rdM 7) (consM (rdM 8) (nilM)))))) (consM (callM Fl (consM (ntM (rdM 5)) (consM (rdM 6) (consM (rdM 7) (consM (rdM 8) (nilM)))))) nilM)))) (retS (cM (.bl false))) nxS (V s0 d kn fo lap rs cs k dy o9 o10 o11 o12 o13 o14) = .nx (V s0 d kn fo lap rs cs k dy o9 o10 o11 o12 o13 o14) := by
  simp [V, h1, h2, liftO, neO_int]
theorem a2 {o : Option Int} (h1 : Fw [T rs] = .ok (optD o, 0)) (h2 : Fl [T rs] = .ok (optD o, 0)) :
    ifS (valT (opM (liftO neO) (consM (callM Fw (consM (ntM (rdM 5)) (nilM))) (consM (callM Fl (consM (ntM (rdM 5)) (nilM))) nilM)))) (retS (cM (.bl false))) nxS (V s0 d kn fo lap rs cs k dy o9 o10 o11 o12 o13 o14) = .nx (V s0 d kn fo lap rs cs k dy o9 o10 o11 o12 o13 o14) := by
  simp [V, h1, h2, liftO, neO_opt]
/-- the crews of a kind, one by one -/
theorem lc_g {kind : Int} {td : Nat} {te : M VD} {g : Int → D} {ρ : En} (hl : cs.length ≤ 1000000) (h5 : ρ = ρ)
    (he : ∀ i : Int, ∃ ρb, (valT (bor (consM (callM Fl (consM (ntM (rdM 5)) (consM (rdM 6) (consM (rdM 15) (consM (rdM td) (nilM)))))) nilM) (vS 9) eqO)) (ρ.set 15 (some (.int i, 0))) = .ok true ρb → True) : True := trivial
def setO (ρ : En) (i : Int) : En := ρ.set 15 (some (.int i, 0))
theorem lc1 {kind : Int} (hl : cs.length ≤ 1000000) (hF : ∀ i : Nat, i < cs.length → Fl [T rs, T cs, .int (i : Int), .int dy] = .ok (.int (at_ rs (gt cs i + dy)), 0)) :
    compM (opI rng1O (consM (stM (opS lenO (consS (vS 6) (nilS)))) (nilM))) (tgN 15) (valT (bor (consM (callM Fl (consM (ntM (rdM 5)) (consM (rdM 6) (consM (rdM 15) (consM (rdM 8) (nilM)))))) nilM) (vS 9) eqO)) (rdM 15) [15] 0 (V s0 d kn fo lap rs cs k dy (some (.int kind, 0)) o10 o11 o12 o13 o14) =
      .ok (.lst ((duty rs cs dy kind).map .int), 1) (V s0 d kn fo lap rs cs k dy (some (.int kind, 0)) o10 o11 o12 o13 o14) := by
  have := compM_pure (fi := opI rng1O (consM (stM (opS lenO (consS (vS 6) (nilS)))) (nilM))) (t := tgN 15) (tt := valT (bor (consM (callM Fl (consM (ntM (rdM 5)) (consM (rdM 6) (consM (rdM 15) (consM (rdM 8) (nilM)))))) nilM) (vS 9) eqO)) (te := rdM 15) (vs := [15]) (ρ := V s0 d kn fo lap rs cs k dy (some (.int kind, 0)) o10 o11 o12 o13 o14) (ρ1 := V s0 d kn fo lap rs cs k dy (some (.int kind, 0)) o10 o11 o12 o13 o14) (ds := rngD 0 cs.length)
    (fun x => match x with | .int i => decide (at_ rs (gt cs i.toNat + dy) = kind) | _ => false) (fun x => x)
    (opI_at (ds := [(.int cs.length, 0)]) (by simp [V, lenO_T, toV]) (by rw [rng1_at ⟨by omega, by omega⟩]; rfl)) (by rw [rngD_len]; exact hl) rfl (by
      intro x hx
      obtain ⟨j, hj⟩ := List.getElem?_of_mem hx
      obtain ⟨hjl, rfl⟩ := rngD_get hj
      rw [Int.zero_add]
      have := hF j hjl
      refine ⟨[s0, some (d, 1), kn, fo, lap, some (NT rs, 0), some (T cs, 0), some (.int k, 0), some (.int dy, 0), some (.int kind, 0), o10, o11, o12, o13, o14, some (.int j, 0)], [s0, some (d, 1), kn, fo, lap, some (NT rs, 0), some (T cs, 0), some (.int k, 0), some (.int dy, 0), some (.int kind, 0), o10, o11, o12, o13, o14, some (.int j, 0)], rfl, by simp [this, eqO_int], fun _ => ⟨0, [s0, some (d, 1), kn, fo, lap, some (NT rs, 0), some (T cs, 0), some (.int k, 0), some (.int dy, 0), some (.int kind, 0), o10, o11, o12, o13, o14, some (.int j, 0)], by simp, rfl⟩, fun _ => rfl⟩)
  have e : ((rngD 0 cs.length).filter (fun x => match x with | .int i => decide (at_ rs (gt cs i.toNat + dy) = kind) | _ => false)).map (fun x => x) = (duty rs cs dy kind).map .int := by
    unfold rngD duty
    rw [List.map_id', List.filter_map, List.map_map]
    have : (fun i : Nat => D.int (0 + (i : Int))) = (D.int ∘ fun i : Nat => (i : Int)) := by funext i; simp
    rw [this]
    rfl
  rw [e] at this
  exact this
theorem lc2 {kind th : Int} (hl : cs.length ≤ 1000000) (hF : ∀ i : Nat, i < cs.length → Fl [T rs, T cs, .int (i : Int), .int th] = .ok (.int (at_ rs (gt cs i + th)), 0)) :
    compM (opI rng1O (consM (stM (opS lenO (consS (vS 6) (nilS)))) (nilM))) (tgN 15) (valT (bor (consM (callM Fl (consM (ntM (rdM 5)) (consM (rdM 6) (consM (rdM 15) (consM (rdM 13) (nilM)))))) nilM) (vS 9) eqO)) (cM (.int 1)) [15] 0 (V s0 d kn fo lap rs cs k dy (some (.int kind, 0)) o10 o11 o12 (some (.int th, 0)) o14) =
      .ok (.lst ((duty rs cs th kind).map fun _ => .int 1), 1) (V s0 d kn fo lap rs cs k dy (some (.int kind, 0)) o10 o11 o12 (some (.int th, 0)) o14) := by
  have := compM_pure (fi := opI rng1O (consM (stM (opS lenO (consS (vS 6) (nilS)))) (nilM))) (t := tgN 15) (tt := valT (bor (consM (callM Fl (consM (ntM (rdM 5)) (consM (rdM 6) (consM (rdM 15) (consM (rdM 13) (nilM)))))) nilM) (vS 9) eqO)) (te := cM (.int 1)) (vs := [15]) (ρ := V s0 d kn fo lap rs cs k dy (some (.int kind, 0)) o10 o11 o12 (some (.int th, 0)) o14) (ρ1 := V s0 d kn fo lap rs cs k dy (some (.int kind, 0)) o10 o11 o12 (some (.int th, 0)) o14) (ds := rngD 0 cs.length)
    (fun x => match x with | .int i => decide (at_ rs (gt cs i.toNat + th) = kind) | _ => false) (fun x => .int 1)
    (opI_at (ds := [(.int cs.length, 0)]) (by simp [V, lenO_T, toV]) (by rw [rng1_at ⟨by omega, by omega⟩]; rfl)) (by rw [rngD_len]; exact hl) rfl (by
      intro x hx
      obtain ⟨j, hj⟩ := List.getElem?_of_mem hx
      obtain ⟨hjl, rfl⟩ := rngD_get hj
      rw [Int.zero_add]
      have := hF j hjl
      refine ⟨[s0, some (d, 1), kn, fo, lap, some (NT rs, 0), some (T cs, 0), some (.int k, 0), some (.int dy, 0), some (.int kind, 0), o10, o11, o12, some (.int th, 0), o14, some (.int j, 0)], [s0, some (d, 1), kn, fo, lap, some (NT rs, 0), some (T cs, 0), some (.int k, 0), some (.int dy, 0), some (.int kind, 0), o10, o11, o12, some (.int th, 0), o14, some (.int j, 0)], rfl, by simp [this, eqO_int], fun _ => ⟨0, _, rfl, rfl⟩, fun _ => rfl⟩)
  have e : ((rngD 0 cs.length).filter (fun x => match x with | .int i => decide (at_ rs (gt cs i.toNat + th) = kind) | _ => false)).map (fun _ => D.int 1) = (duty rs cs th kind).map fun _ => .int 1 := by
    unfold rngD duty
    rw [List.filter_map, List.map_map, List.map_map]
    congr 1
    apply List.filter_congr
    intro i _
    simp
  rw [e] at this
  exact this
theorem a3 {kind : Int} (hl : cs.length ≤ 1000000) (hF : ∀ i : Nat, i < cs.length → Fl [T rs, T cs, .int (i : Int), .int dy] = .ok (.int (at_ rs (gt cs i + dy)), 0)) (hW : Fw [T rs, T cs, .int dy, .int kind] = .ok (T (duty rs cs dy kind), 0)) :
    seqS (setS 10 (compM (opI rng1O (consM (stM (opS lenO (consS (vS 6) (nilS)))) (nilM))) (tgN 15) (valT (bor (consM (callM Fl (consM (ntM (rdM 5)) (consM (rdM 6) (consM (rdM 15) (consM (rdM 8) (nilM)))))) nilM) (vS 9) eqO)) (rdM 15) [15] 0)) (
      ifS (valT (opM (liftO neO) (consM (callM Fw (consM (ntM (rdM 5)) (consM (rdM 6) (consM (rdM 8) (consM (rdM 9) (nilM)))))) (consM (opM tuplO (consM (rdM 10) (nilM))) nilM)))) (retS (cM (.bl false))) nxS) (V s0 d kn fo lap rs cs k dy (some (.int kind, 0)) o10 o11 o12 o13 o14) =
    .nx (V s0 d kn fo lap rs cs k dy (some (.int kind, 0)) (some (.lst ((duty rs cs dy kind).map .int), 0)) o11 o12 o13 o14) := by
  refine (seqS_nx (ρ1 := V s0 d kn fo lap rs cs k dy (some (.int kind, 0)) (some (.lst ((duty rs cs dy kind).map .int), 1)) o11 o12 o13 o14) (by rw [setS_e, lc1 hl hF]; rfl)).trans ?_
  have e := neO_T (duty rs cs dy kind)
  have e' : neO [T (duty rs cs dy kind), .tup ((duty rs cs dy kind).map .int)] = some (.bl false) := e
  simp [V, hW, tuplO, liftO, e']
end
end Em
set_option Elab.async false
set_option linter.all false
set_option maxRecDepth 100000
set_option maxHeartbeats 4000000
namespace Em
open PySem L2 PyProof.Rows
theorem forL2 {t : D → En → Option En} {m : MS} {d1 d2 : D} {ρ ρ1 ρ2 ρ3 ρ4 : En} (h1 : t d1 ρ = some ρ1) (h2 : m ρ1 = .nx ρ2) (h3 : t d2 ρ2 = some ρ3) (h4 : m ρ3 = .nx ρ4) : forL t m [d1, d2] ρ = .nx ρ4 := by
  unfold forL; rw [h1]; dsimp only; rw [h2]; dsimp only
  unfold forL; rw [h3]; dsimp only; rw [h4]; rfl
theorem kinds_at (ρ : En) : seqM (opM tupO (consM (cM (.int 1)) (consM (cM (.int 2)) (nilM)))) ρ = .ok [.int 1, .int 2] ρ := by simp [tupO]
theorem atoms_intsL : ∀ xs : List Int, atoms (xs.map .int) = some (xs.map V.int)
  | [] => rfl
  | x :: r => by simp [atoms, toV, atoms_intsL r]
theorem rep_int {a b : Int} {k l : Nat} (h : (-(2 ^ 64) < a ∧ a < 2 ^ 64) ∨ (-(2 ^ 64) < b ∧ b < 2 ^ 64)) : repO [(.int a, k), (.int b, l)] = some (.int (a * b), 0) := by
  show (mulO [.int a, .int b]).map (fun d => (d, 0)) = _
  rw [mul_at h]; rfl
section
variable {s0 kn fo lap o9 o10 o11 o12 o13 o14 : Option VD} {d : D} {rs cs : List Int} {k dy : Int} {Fw Fl Fm Fr : List D → FR}
theorem a5 {kind : Int} {fw : List D} {k11 : Nat} (hne : rs ≠ []) (hr : rs.length ≤ 28) (hl : cs.length ≤ 8) (hF : ∀ (i : Nat) (th : Int), i < cs.length → Fl [T rs, T cs, .int (i : Int), .int th] = .ok (.int (at_ rs (gt cs i + th)), 0)) (hfw : fw.length < 100) :
    ∃ o12' o13', seqS (setS 12 (opM lstO (nilM))) (
      seqS (forS (opI rng1O (consM (stM (opS lenO (consS (ntS (vS 5)) (nilS)))) (nilM))) (tgN 13) (
      appS 12 (opM (liftO lenO) (consM (compM (opI rng1O (consM (stM (opS lenO (consS (vS 6) (nilS)))) (nilM))) (tgN 15) (valT (bor (consM (callM Fl (consM (ntM (rdM 5)) (consM (rdM 6) (consM (rdM 15) (consM (rdM 13) (nilM)))))) nilM) (vS 9) eqO)) (cM (.int 1)) [15] 0) (nilM))))) (
      appS 11 (stM (opS minO (consS (vS 12) (nilS)))))) (V s0 d kn fo lap rs cs k dy (some (.int kind, 0)) o10 (some (.lst fw, k11 + 1)) o12 o13 o14) =
    .nx (V s0 d kn fo lap rs cs k dy (some (.int kind, 0)) o10 (some (.lst (fw ++ [.int (mn rs cs kind)]), 1)) o12' o13' o14) := by
  obtain ⟨ρ', e1, kk, o13', rfl⟩ := forL_inv (t := tgN 13) (m := appS 12 (opM (liftO lenO) (consM (compM (opI rng1O (consM (stM (opS lenO (consS (vS 6) (nilS)))) (nilM))) (tgN 15) (valT (bor (consM (callM Fl (consM (ntM (rdM 5)) (consM (rdM 6) (consM (rdM 15) (consM (rdM 13) (nilM)))))) nilM) (vS 9) eqO)) (cM (.int 1)) [15] 0) (nilM))))
    (fun i ρ => ∃ (kk : Nat) (o13 : Option VD), ρ = V s0 d kn fo lap rs cs k dy (some (.int kind, 0)) o10 (some (.lst fw, k11 + 1)) (some (.lst (((List.range i).map fun (d : Nat) => cnt rs cs (d : Int) kind).map .int), kk + 1)) o13 o14)
    (rngD 0 rs.length) 0 (V s0 d kn fo lap rs cs k dy (some (.int kind, 0)) o10 (some (.lst fw, k11 + 1)) (some (.lst [], 2)) o13 o14) ⟨1, o13, rfl⟩ (by
      rintro j x ρ hj ⟨kk, o, rfl⟩
      obtain ⟨hjl, rfl⟩ := rngD_get hj
      rw [Int.zero_add, Nat.zero_add]
      refine ⟨_, _, rfl, ?_, min kk 0, some (.int j, 0), rfl⟩
      have e := lc2 (s0 := s0) (d := d) (kn := kn) (fo := fo) (lap := lap) (o10 := o10) (o11 := some (.lst fw, k11 + 1)) (o12 := some (.lst (((List.range j).map fun (d : Nat) => cnt rs cs (d : Int) kind).map .int), kk + 1)) (o14 := o14) (k := k) (dy := dy) (kind := kind) (th := (j : Int)) (Fl := Fl) (rs := rs) (cs := cs) (by omega) (fun i hi => hF i j hi)
      have ef : opM (liftO lenO) (consM (compM (opI rng1O (consM (stM (opS lenO (consS (vS 6) (nilS)))) (nilM))) (tgN 15) (valT (bor (consM (callM Fl (consM (ntM (rdM 5)) (consM (rdM 6) (consM (rdM 15) (consM (rdM 13) (nilM)))))) nilM) (vS 9) eqO)) (cM (.int 1)) [15] 0) (nilM)) (V s0 d kn fo lap rs cs k dy (some (.int kind, 0)) o10 (some (.lst fw, k11 + 1)) (some (.lst (((List.range j).map fun (d : Nat) => cnt rs cs (d : Int) kind).map .int), kk + 1)) (some (.int j, 0)) o14) = .ok (.int (cnt rs cs (j : Int) kind), 0) (V s0 d kn fo lap rs cs k dy (some (.int kind, 0)) o10 (some (.lst fw, k11 + 1)) (some (.lst (((List.range j).map fun (d : Nat) => cnt rs cs (d : Int) kind).map .int), kk + 1)) (some (.int j, 0)) o14) := by
        rw [opM_e, consM_e, e]
        simp [liftO, lenO, cnt]
      show appS 12 _ (V s0 d kn fo lap rs cs k dy (some (.int kind, 0)) o10 (some (.lst fw, k11 + 1)) (some (.lst (((List.range j).map fun (d : Nat) => cnt rs cs (d : Int) kind).map .int), kk + 1)) (some (.int j, 0)) o14) = .nx (V s0 d kn fo lap rs cs k dy (some (.int kind, 0)) o10 (some (.lst fw, k11 + 1)) (some (.lst (((List.range (j + 1)).map fun (d : Nat) => cnt rs cs (d : Int) kind).map .int), min kk 0 + 1)) (some (.int j, 0)) o14)
      rw [appS_e]
      rw [show (V s0 d kn fo lap rs cs k dy (some (.int kind, 0)) o10 (some (.lst fw, k11 + 1)) (some (.lst (((List.range j).map fun (d : Nat) => cnt rs cs (d : Int) kind).map .int), kk + 1)) (some (.int j, 0)) o14)[12]? = some (some (.lst (((List.range j).map fun (d : Nat) => cnt rs cs (d : Int) kind).map .int), kk + 1)) from rfl]
      dsimp only
      rw [ef]; dsimp only
      rw [show (V s0 d kn fo lap rs cs k dy (some (.int kind, 0)) o10 (some (.lst fw, k11 + 1)) (some (.lst (((List.range j).map fun (d : Nat) => cnt rs cs (d : Int) kind).map .int), kk + 1)) (some (.int j, 0)) o14)[12]? = some (some (.lst (((List.range j).map fun (d : Nat) => cnt rs cs (d : Int) kind).map .int), kk + 1)) from rfl]
      dsimp only
      rw [if_pos (by simp; omega), List.range_succ, List.map_append, List.map_append]
      rfl)
  rw [rngD_len, Nat.zero_add] at e1
  have hm := minO_L (range_ne hne fun d : Nat => cnt rs cs (d : Int) kind)
  refine ⟨some (.lst (((List.range rs.length).map fun (d : Nat) => cnt rs cs (d : Int) kind).map .int), kk + 1), o13', (seqS_nx (f := setS 12 (opM lstO nilM)) (ρ1 := V s0 d kn fo lap rs cs k dy (some (.int kind, 0)) o10 (some (.lst fw, k11 + 1)) (some (.lst [], 2)) o13 o14) rfl).trans ((seqS_nx (ρ1 := V s0 d kn fo lap rs cs k dy (some (.int kind, 0)) o10 (some (.lst fw, k11 + 1)) (some (.lst (((List.range rs.length).map fun (d : Nat) => cnt rs cs (d : Int) kind).map .int), kk + 1)) o13' o14) ?_).trans ?_)⟩
  · rw [forS_at (opI_at (ρ1 := V s0 d kn fo lap rs cs k dy (some (.int kind, 0)) o10 (some (.lst fw, k11 + 1)) (some (.lst [], 2)) o13 o14) (ds := [(.int rs.length, 0)]) (r := rngD 0 rs.length) (by simp [V, lenO_T, toV]) (by rw [rng1_at ⟨by omega, by omega⟩, Int.toNat_natCast])), e1]
  · rw [appS_e]
    rw [show (V s0 d kn fo lap rs cs k dy (some (.int kind, 0)) o10 (some (.lst fw, k11 + 1)) (some (.lst (((List.range rs.length).map fun (d : Nat) => cnt rs cs (d : Int) kind).map .int), kk + 1)) o13' o14)[11]? = some (some (.lst fw, k11 + 1)) from rfl]
    dsimp only
    rw [show stM (opS minO (consS (vS 12) nilS)) (V s0 d kn fo lap rs cs k dy (some (.int kind, 0)) o10 (some (.lst fw, k11 + 1)) (some (.lst (((List.range rs.length).map fun (d : Nat) => cnt rs cs (d : Int) kind).map .int), kk + 1)) o13' o14) = .ok (.int (mn rs cs kind), 0) (V s0 d kn fo lap rs cs k dy (some (.int kind, 0)) o10 (some (.lst fw, k11 + 1)) (some (.lst (((List.range rs.length).map fun (d : Nat) => cnt rs cs (d : Int) kind).map .int), kk + 1)) o13' o14) by
      simp only [stM_e, opS_e, consS_e, nilS_e, vS_e]
      rw [show (V s0 d kn fo lap rs cs k dy (some (.int kind, 0)) o10 (some (.lst fw, k11 + 1)) (some (.lst (((List.range rs.length).map fun (d : Nat) => cnt rs cs (d : Int) kind).map .int), kk + 1)) o13' o14)[12]? = some (some (.lst (((List.range rs.length).map fun (d : Nat) => cnt rs cs (d : Int) kind).map .int), kk + 1)) from rfl]
      simp only [Option.bind_some, hm]
      rfl]
    dsimp only
    rw [show (V s0 d kn fo lap rs cs k dy (some (.int kind, 0)) o10 (some (.lst fw, k11 + 1)) (some (.lst (((List.range rs.length).map fun (d : Nat) => cnt rs cs (d : Int) kind).map .int), kk + 1)) o13' o14)[11]? = some (some (.lst fw, k11 + 1)) from rfl]
    dsimp only
    rw [if_pos (by omega)]
    rw [show min k11 0 = 0 by omega]
    rfl
theorem a7 {m1 m2 : Int} {kq : Nat} (h : Fr [T rs] = .ok (.bl true, 0)) :
    ifS (orT (valT (opM (liftO neO) (consM (rdM 14) (consM (opM tuplO (consM (rdM 11) (nilM))) nilM)))) (valT (bor (consM (callM Fr (consM (ntM (rdM 5)) (nilM))) nilM) (cS (.bl true)) notO))) (retS (cM (.bl false))) nxS (V s0 d kn fo lap rs cs k dy o9 o10 (some (.lst [.int m1, .int m2], kq)) o12 o13 (some (.tup [.int m1, .int m2], 0))) =
    .nx (V s0 d kn fo lap rs cs k dy o9 o10 (some (.lst [.int m1, .int m2], 0)) o12 o13 (some (.tup [.int m1, .int m2], 0))) := by
  have e : neO [.tup [.int m1, .int m2], .tup [.int m1, .int m2]] = some (.bl false) := neO_T [m1, m2]
  simp [V, liftO, tuplO, e, h, notO]
theorem a8' {kind m1 m2 mm : Int} {cc : Nat} {Mu : List D → Option D} {Re : List VD → Option VD} (hix : ixS [.tup [.int m1, .int m2], .int (kind - 1)] = some (.int mm)) (hc : ntcntO (NT rs) (.int kind) = some (.int (cc : Int))) (e1 : Mu [.int mm, .int rs.length] = some (.int (mm * rs.length))) (e2 : Re [(.int (cc : Int), 0), (.int (cs.length : Int), 0)] = some (.int ((cc : Int) * cs.length), 0)) (e3 : ¬ ((cc : Int) * cs.length < mm * rs.length)) :
    ifS (valT (opM (liftO gtO) (consM (chM (opS Mu (consS (opS ixS (consS (vS 14) (consS (opS subO (consS (vS 9) (consS (cS (.int 1)) nilS))) nilS))) (consS (opS lenO (consS (ntS (vS 5)) (nilS))) nilS))) (opM Re (consM (chM (opS ixS (consS (vS 14) (consS (opS subO (consS (vS 9) (consS (cS (.int 1)) nilS))) nilS))) (opM ixO (consM (rdM 14) (consM (stM (opS subO (consS (vS 9) (consS (cS (.int 1)) nilS)))) nilM)))) (consM (stM (opS lenO (consS (ntS (vS 5)) (nilS)))) nilM)))) (consM (opM Re (consM (methM isNtp ntcntO (rdM 5) (rdM 9)) (consM (stM (opS lenO (consS (vS 6) (nilS)))) nilM))) nilM)))) (retS (cM (.bl false))) nxS (V s0 d kn fo lap rs cs k dy (some (.int kind, 0)) o10 o11 o12 o13 (some (.tup [.int m1, .int m2], 0))) =
    .nx (V s0 d kn fo lap rs cs k dy (some (.int kind, 0)) o10 o11 o12 o13 (some (.tup [.int m1, .int m2], 0))) := by
  have hn : isNtp (NT rs) = true := rfl
  simp [V, subO, hix, lenO_T, e1, toV, hn, hc, e2, liftO, gtO, e3]
theorem a8 {kind m1 m2 : Int} (hkind : kind = 1 ∨ kind = 2) (hr : rs.length ≤ 28) (hl : cs.length ≤ 8) (hm : (if kind = 1 then m1 else m2) * rs.length ≤ ((sm rs.length fun d => if at_ rs (d : Int) = kind then 1 else 0 : Nat) : Int) * cs.length) :
    ifS (valT (opM (liftO gtO) (consM (chM (opS mulO (consS (opS ixS (consS (vS 14) (consS (opS subO (consS (vS 9) (consS (cS (.int 1)) nilS))) nilS))) (consS (opS lenO (consS (ntS (vS 5)) (nilS))) nilS))) (opM repO (consM (chM (opS ixS (consS (vS 14) (consS (opS subO (consS (vS 9) (consS (cS (.int 1)) nilS))) nilS))) (opM ixO (consM (rdM 14) (consM (stM (opS subO (consS (vS 9) (consS (cS (.int 1)) nilS)))) nilM)))) (consM (stM (opS lenO (consS (ntS (vS 5)) (nilS)))) nilM)))) (consM (opM repO (consM (methM isNtp ntcntO (rdM 5) (rdM 9)) (consM (stM (opS lenO (consS (vS 6) (nilS)))) nilM))) nilM)))) (retS (cM (.bl false))) nxS (V s0 d kn fo lap rs cs k dy (some (.int kind, 0)) o10 o11 o12 o13 (some (.tup [.int m1, .int m2], 0))) =
    .nx (V s0 d kn fo lap rs cs k dy (some (.int kind, 0)) o10 o11 o12 o13 (some (.tup [.int m1, .int m2], 0))) := by
  have hix : ixS [.tup [.int m1, .int m2], .int (kind - 1)] = some (.int (if kind = 1 then m1 else m2)) := by
    rcases hkind with rfl | rfl <;> rfl
  generalize (if kind = 1 then m1 else m2) = mm at hix hm
  have hc : ntcntO (NT rs) (.int kind) = some (.int ((sm rs.length fun d => if at_ rs (d : Int) = kind then 1 else 0 : Nat) : Int)) := by
    show cntA (rs.map .int) (.int kind) = _
    unfold cntA
    rw [atoms_intsL]
    show some (D.int _) = _
    rw [count_sm]
  generalize sm rs.length (fun d => if at_ rs (d : Int) = kind then 1 else 0) = cc at hc hm
  have e1 := mul_at (a := mm) (b := rs.length) (.inr (by omega))
  have e2 : repO [(.int (cc : Int), 0), (.int (cs.length : Int), 0)] = some (.int ((cc : Int) * cs.length), 0) := rep_int (.inr (by omega))
  exact a8' hix hc e1 e2 (by omega)
theorem cat_rot (h : rs ≠ []) (hr : rs.length ≤ 28) : opM catO (consM (slM (ntM (rdM 5)) (obM (cS (.int 1))) (nobM)) (consM (slM (ntM (rdM 5)) (nobM) (obM (cS (.int 1)))) nilM)) (V s0 d kn fo lap rs cs k dy o9 o10 o11 o12 o13 o14) = .ok (T (rot rs), 0) (V s0 d kn fo lap rs cs k dy o9 o10 o11 o12 o13 o14) := by
  cases rs with
  | nil => exact absurd rfl h
  | cons r t =>
    have hl : t.length ≤ 27 := by simp at hr; omega
    have e1 : slO (T (r :: t)) (some 1) none = some (.tup (t.map .int), 0) := by
      show some (D.tup (cutL ((r :: t).map .int) (some 1) none), 0) = _
      simp [cutL, HT.sIx]
      exact List.take_of_length_le (by simp)
    have e2 : slO (T (r :: t)) none (some 1) = some (.tup [.int r], 0) := by
      show some (D.tup (cutL ((r :: t).map .int) none (some 1)), 0) = _
      simp [cutL, HT.sIx]
    have e3 : catO [(.tup (t.map .int), 0), (.tup [.int r], 0)] = some (T (rot (r :: t)), 0) := by
      show (if (t.map D.int).length + [D.int r].length ≤ 1000000 then some (D.tup (t.map .int ++ [.int r]), 0) else none) = _
      rw [if_pos (by simp; omega)]
      simp [T, rot]
    simp [V, e1, e2, e3]
theorem a9 {m1 m2 : Int} {o : Option Int} {Fz : List D → FR} (h : rs ≠ []) (hr : rs.length ≤ 28) (h1 : Fm [T (rot rs), T cs] = .ok (.tup [.int m1, .int m2], 0)) (h2 : Fz [T (rot rs)] = .ok (optD o, 0)) (h3 : Fz [T rs] = .ok (optD o, 0)) :
    ifS (orT (valT (bor (consM (callM Fm (consM (opM catO (consM (slM (ntM (rdM 5)) (obM (cS (.int 1))) (nobM)) (consM (slM (ntM (rdM 5)) (nobM) (obM (cS (.int 1)))) nilM))) (consM (rdM 6) (nilM)))) nilM) (vS 14) neO)) (valT (opM (liftO neO) (consM (callM Fz (consM (opM catO (consM (slM (ntM (rdM 5)) (obM (cS (.int 1))) (nobM)) (consM (slM (ntM (rdM 5)) (nobM) (obM (cS (.int 1)))) nilM))) (nilM))) (consM (callM Fz (consM (ntM (rdM 5)) (nilM))) nilM))))) (retS (cM (.bl false))) nxS (V s0 d kn fo lap rs cs k dy o9 o10 o11 o12 o13 (some (.tup [.int m1, .int m2], 0))) =
    .nx (V s0 d kn fo lap rs cs k dy o9 o10 o11 o12 o13 (some (.tup [.int m1, .int m2], 0))) := by
  have hc := cat_rot (s0 := s0) (d := d) (kn := kn) (fo := fo) (lap := lap) (k := k) (dy := dy) (o9 := o9) (o10 := o10) (o11 := o11) (o12 := o12) (o13 := o13) (o14 := some (.tup [.int m1, .int m2], 0)) (cs := cs) h hr
  have e : neO [.tup [.int m1, .int m2], .tup [.int m1, .int m2]] = some (.bl false) := neO_T [m1, m2]
  have r6 : ∀ {x : Nat}, (V s0 d kn fo lap rs cs k dy o9 o10 o11 o12 o13 (some (.tup [.int m1, .int m2], 0)))[6]? = some (some (T cs, 0)) := rfl
  have i1 : valT (bor (consM (callM Fm (consM (opM catO (consM (slM (ntM (rdM 5)) (obM (cS (.int 1))) (nobM)) (consM (slM (ntM (rdM 5)) (nobM) (obM (cS (.int 1)))) nilM))) (consM (rdM 6) (nilM)))) nilM) (vS 14) neO) (V s0 d kn fo lap rs cs k dy o9 o10 o11 o12 o13 (some (.tup [.int m1, .int m2], 0))) = .ok false (V s0 d kn fo lap rs cs k dy o9 o10 o11 o12 o13 (some (.tup [.int m1, .int m2], 0))) := by
    rw [valT_e, bor_e, consM_e, callM_e, consM_e, hc]
    simp [V, h1, e]
  have i2 : valT (opM (liftO neO) (consM (callM Fz (consM (opM catO (consM (slM (ntM (rdM 5)) (obM (cS (.int 1))) (nobM)) (consM (slM (ntM (rdM 5)) (nobM) (obM (cS (.int 1)))) nilM))) (nilM))) (consM (callM Fz (consM (ntM (rdM 5)) (nilM))) nilM))) (V s0 d kn fo lap rs cs k dy o9 o10 o11 o12 o13 (some (.tup [.int m1, .int m2], 0))) = .ok false (V s0 d kn fo lap rs cs k dy o9 o10 o11 o12 o13 (some (.tup [.int m1, .int m2], 0))) := by
    rw [valT_e, opM_e, consM_e, callM_e, consM_e, hc]
    simp [V, h2, h3, liftO, neO_opt]
  rw [ifS_e, orT_e, i1]; dsimp only; rw [i2]; rfl
theorem a10 {d' : D} {Fq : D → List D → FI} (h : Fq d [] = .ok (.bl true, 0) d') :
    ifS (notT (valT (callI Fq 1 (nilM)))) (retS (cM (.bl false))) nxS (V s0 d kn fo lap rs cs k dy o9 o10 o11 o12 o13 o14) = .nx (V s0 d' kn fo lap rs cs k dy o9 o10 o11 o12 o13 o14) := by
  simp [V, h]
end
end Em
set_option Elab.async false
set_option linter.all false
set_option maxRecDepth 100000
set_option maxHeartbeats 4000000
namespace Em
open PySem L2 PyProof.Rows
def lawBody : MS := 
  seqS (asgS (tgT [tgN 5, tgN 6]) (callI F__law_rota 1 (nilM))) (
  seqS (asgS (tgT [tgN 7, tgN 8]) (opM tupO (consM (callI F__law_draw 1 (consM (stM (opS lenO (consS (vS 6) (nilS)))) (nilM))) (consM (callI F__law_draw 1 (consM (callI F__law_any 1 (consM (opM lstO (consM (cM (.int 20)) (consM (cM (.int 1000001)) (nilM)))) (nilM))) (nilM))) (nilM))))) (
  seqS (ifS (valT (opM (liftO neO) (consM (callM F_watch_at (consM (ntM (rdM 5)) (consM (rdM 6) (consM (rdM 7) (consM (rdM 8) (nilM)))))) (consM (callM F__law_at (consM (ntM (rdM 5)) (consM (rdM 6) (consM (rdM 7) (consM (rdM 8) (nilM)))))) nilM)))) (
  retS (cM (.bl false))) (
  nxS)) (
  seqS (ifS (valT (opM (liftO neO) (consM (callM F_least_rest (consM (ntM (rdM 5)) (nilM))) (consM (callM F__law_least (consM (ntM (rdM 5)) (nilM))) nilM)))) (
  retS (cM (.bl false))) (
  nxS)) (
  seqS (forS (seqM (opM tupO (consM (cM (.int 1)) (consM (cM (.int 2)) (nilM))))) (tgN 9) (
  seqS (setS 10 (compM (opI rng1O (consM (stM (opS lenO (consS (vS 6) (nilS)))) (nilM))) (tgN 15) (valT (bor (consM (callM F__law_at (consM (ntM (rdM 5)) (consM (rdM 6) (consM (rdM 15) (consM (rdM 8) (nilM)))))) nilM) (vS 9) eqO)) (rdM 15) [15] 0)) (
  ifS (valT (opM (liftO neO) (consM (callM F_on_duty (consM (ntM (rdM 5)) (consM (rdM 6) (consM (rdM 8) (consM (rdM 9) (nilM)))))) (consM (opM tuplO (consM (rdM 10) (nilM))) nilM)))) (
  retS (cM (.bl false))) (
  nxS)))) (
  seqS (setS 11 (opM lstO (nilM))) (
  seqS (forS (seqM (opM tupO (consM (cM (.int 1)) (consM (cM (.int 2)) (nilM))))) (tgN 9) (
  seqS (setS 12 (opM lstO (nilM))) (
  seqS (forS (opI rng1O (consM (stM (opS lenO (consS (ntS (vS 5)) (nilS)))) (nilM))) (tgN 13) (
  appS 12 (opM (liftO lenO) (consM (compM (opI rng1O (consM (stM (opS lenO (consS (vS 6) (nilS)))) (nilM))) (tgN 15) (valT (bor (consM (callM F__law_at (consM (ntM (rdM 5)) (consM (rdM 6) (consM (rdM 15) (consM (rdM 13) (nilM)))))) nilM) (vS 9) eqO)) (cM (.int 1)) [15] 0) (nilM))))) (
  appS 11 (stM (opS minO (consS (vS 12) (nilS)))))))) (
  seqS (setS 14 (callM F_manned (consM (ntM (rdM 5)) (consM (rdM 6) (nilM))))) (
  seqS (ifS (orT (valT (opM (liftO neO) (consM (rdM 14) (consM (opM tuplO (consM (rdM 11) (nilM))) nilM)))) (valT (bor (consM (callM F_is_rota (consM (ntM (rdM 5)) (nilM))) nilM) (cS (.bl true)) notO))) (
  retS (cM (.bl false))) (
  nxS)) (
  seqS (forS (seqM (opM tupO (consM (cM (.int 1)) (consM (cM (.int 2)) (nilM))))) (tgN 9) (
  ifS (valT (opM (liftO gtO) (consM (chM (opS mulO (consS (opS ixS (consS (vS 14) (consS (opS subO (consS (vS 9) (consS (cS (.int 1)) nilS))) nilS))) (consS (opS lenO (consS (ntS (vS 5)) (nilS))) nilS))) (opM repO (consM (chM (opS ixS (consS (vS 14) (consS (opS subO (consS (vS 9) (consS (cS (.int 1)) nilS))) nilS))) (opM ixO (consM (rdM 14) (consM (stM (opS subO (consS (vS 9) (consS (cS (.int 1)) nilS)))) nilM)))) (consM (stM (opS lenO (consS (ntS (vS 5)) (nilS)))) nilM)))) (consM (opM repO (consM (methM isNtp ntcntO (rdM 5) (rdM 9)) (consM (stM (opS lenO (consS (vS 6) (nilS)))) nilM))) nilM)))) (
  retS (cM (.bl false))) (
  nxS))) (
  seqS (ifS (orT (valT (bor (consM (callM F_manned (consM (opM catO (consM (slM (ntM (rdM 5)) (obM (cS (.int 1))) (nobM)) (consM (slM (ntM (rdM 5)) (nobM) (obM (cS (.int 1)))) nilM))) (consM (rdM 6) (nilM)))) nilM) (vS 14) neO)) (valT (opM (liftO neO) (consM (callM F_least_rest (consM (opM catO (consM (slM (ntM (rdM 5)) (obM (cS (.int 1))) (nobM)) (consM (slM (ntM (rdM 5)) (nobM) (obM (cS (.int 1)))) nilM))) (nilM))) (consM (callM F_least_rest (consM (ntM (rdM 5)) (nilM))) nilM))))) (
  retS (cM (.bl false))) (
  nxS)) (
  ifS (notT (valT (callI F__law_refused_right 1 (nilM)))) (
  retS (cM (.bl false))) (
  nxS))))))))))))
theorem body_ok {s0 kn fo lap o5 o6 o7 o8 o9 o10 o11 o12 o13 o14 : Option VD} {d : D} (hd : Hd d) :
    ∃ (d' : D) (p5 p6 p7 p8 p9 p10 p11 p12 p13 p14 : Option VD), lawBody [s0, some (d, 1), kn, fo, lap, o5, o6, o7, o8, o9, o10, o11, o12, o13, o14, none] = .nx [s0, some (d', 1), kn, fo, lap, p5, p6, p7, p8, p9, p10, p11, p12, p13, p14, none] ∧ Hd d' := by
  obtain ⟨rs, cs, d1, e1, hr, hc, hd1⟩ := v_rota hd
  have hr1 := hr.l1; have hc1 := hc.l1; have hc0 := hc.l0
  obtain ⟨k, d2, e2, k0, k1, hd2⟩ := v_draw hd1 (bd := cs.length) (by omega)
  obtain ⟨x, d3, e3, hx, hd3⟩ := any_at (Fa := F__law_any) (fun h => v_any h) (i := 1) (fs := consM (cM (.int 20)) (consM (cM (.int 1000001)) nilM)) (ρ := [s0, some (d2, 1), kn, fo, lap, some (NT rs, 0), some (T cs, 0), o7, o8, o9, o10, o11, o12, o13, o14, none]) (ρ1 := [s0, some (d2, 1), kn, fo, lap, some (NT rs, 0), some (T cs, 0), o7, o8, o9, o10, o11, o12, o13, o14, none]) (its := [(.int 20, 0), (.int 1000001, 0)]) (k := 0) rfl (by simp) rfl hd2 (by simp) (by simp)
  have hx' : ∃ z : Int, x = .int z ∧ 0 < z ∧ z ≤ 1000001 := by
    simp at hx
    rcases hx with rfl | rfl <;> exact ⟨_, rfl, by omega, by omega⟩
  obtain ⟨z, rfl, z0, z1⟩ := hx'
  obtain ⟨dy, d4, e4, y0, y1, hd4⟩ := v_draw hd3 (bd := z) (by omega)
  have s1 : asgS (tgT [tgN 5, tgN 6]) (callI F__law_rota 1 (nilM)) [s0, some (d, 1), kn, fo, lap, o5, o6, o7, o8, o9, o10, o11, o12, o13, o14, none] = .nx [s0, some (d1, 1), kn, fo, lap, some (NT rs, 0), some (T cs, 0), o7, o8, o9, o10, o11, o12, o13, o14, none] := by
    simp [e1, tgT, tgs, tgN]
  have s2 : asgS (tgT [tgN 7, tgN 8]) (opM tupO (consM (callI F__law_draw 1 (consM (stM (opS lenO (consS (vS 6) (nilS)))) (nilM))) (consM (callI F__law_draw 1 (consM (callI F__law_any 1 (consM (opM lstO (consM (cM (.int 20)) (consM (cM (.int 1000001)) (nilM)))) (nilM))) (nilM))) (nilM)))) [s0, some (d1, 1), kn, fo, lap, some (NT rs, 0), some (T cs, 0), o7, o8, o9, o10, o11, o12, o13, o14, none] = .nx (V s0 d4 kn fo lap rs cs k dy o9 o10 o11 o12 o13 o14) := by
    have q1 : callI F__law_draw 1 (consM (stM (opS lenO (consS (vS 6) (nilS)))) (nilM)) [s0, some (d1, 1), kn, fo, lap, some (NT rs, 0), some (T cs, 0), o7, o8, o9, o10, o11, o12, o13, o14, none] = .ok (.int k, 0) [s0, some (d2, 1), kn, fo, lap, some (NT rs, 0), some (T cs, 0), o7, o8, o9, o10, o11, o12, o13, o14, none] := by
      simp [lenO_T, toV, e2]
    have q2 : callI F__law_draw 1 (consM (callI F__law_any 1 (consM (opM lstO (consM (cM (.int 20)) (consM (cM (.int 1000001)) (nilM)))) (nilM))) (nilM)) [s0, some (d2, 1), kn, fo, lap, some (NT rs, 0), some (T cs, 0), o7, o8, o9, o10, o11, o12, o13, o14, none] = .ok (.int dy, 0) [s0, some (d4, 1), kn, fo, lap, some (NT rs, 0), some (T cs, 0), o7, o8, o9, o10, o11, o12, o13, o14, none] := by
      rw [callI_e, consM_e, e3]
      simp [e4]
    rw [asgS_e, opM_e, consM_e, q1]; dsimp only
    rw [consM_e, q2]
    rfl
  have hF : ∀ (i : Nat) (th : Int), i < cs.length → F__law_at [T rs, T cs, .int (i : Int), .int th] = .ok (.int (at_ rs (gt cs i + th)), 0) := fun i th hi => v_law_at hr.ne (by omega) (by omega) th
  have hwa := v_watch_at hr hc k0 k1 (d := dy) ⟨y0, by omega⟩
  have hla := v_law_at (cs := cs) hr.ne k0 k1 dy
  have hlr := v_least_rest hr
  have hll := v_law_least hr
  have hm := v_manned hr hc
  have hcr : CrewV cs (rot rs).length := by rw [rot_len]; exact hc
  have hmr := v_manned (rot_v hr) hcr
  rw [mn_rot hr.ne, mn_rot hr.ne] at hmr
  have hlrr := v_least_rest (rot_v hr)
  rw [hl_rot hr.ne] at hlrr
  have hir := v_is_rota (d := T rs) (okD_T (by omega))
  rw [rotaB_T hr] at hir
  obtain ⟨d5, hq, hd5⟩ := v_refused hd4
  have f3 := fun (kind : Int) (hk : 1 ≤ kind ∧ kind ≤ 2) (p10 : Option VD) => a3 (s0 := s0) (d := d4) (kn := kn) (fo := fo) (lap := lap) (o10 := p10) (o11 := o11) (o12 := o12) (o13 := o13) (o14 := o14) (k := k) (rs := rs) (cs := cs) (dy := dy) (kind := kind) (Fl := F__law_at) (Fw := F_on_duty) (by omega) (fun i hi => hF i dy hi) (v_on_duty hr hc ⟨y0, by omega⟩ hk)
  obtain ⟨q12, q13, g1⟩ := a5 (s0 := s0) (d := d4) (kn := kn) (fo := fo) (lap := lap) (o10 := some (.lst ((duty rs cs dy 2).map .int), 0)) (o12 := o12) (o13 := o13) (o14 := o14) (k := k) (rs := rs) (cs := cs) (dy := dy) (kind := 1) (fw := []) (k11 := 1) (Fl := F__law_at) hr.ne hr1 hc1 hF (by simp)
  obtain ⟨u12, u13, g2⟩ := a5 (s0 := s0) (d := d4) (kn := kn) (fo := fo) (lap := lap) (o10 := some (.lst ((duty rs cs dy 2).map .int), 0)) (o12 := q12) (o13 := q13) (o14 := o14) (k := k) (rs := rs) (cs := cs) (dy := dy) (kind := 2) (fw := [.int (mn rs cs 1)]) (k11 := 0) (Fl := F__law_at) hr.ne hr1 hc1 hF (by simp)
  have fa := fun kind => fact hr hc kind
  refine ⟨d5, some (NT rs, 0), some (T cs, 0), some (.int k, 0), some (.int dy, 0), some (.int 2, 0), some (.lst ((duty rs cs dy 2).map .int), 0), some (.lst [.int (mn rs cs 1), .int (mn rs cs 2)], 0), u12, u13, some (.tup [.int (mn rs cs 1), .int (mn rs cs 2)], 0), ?_, hd5⟩
  · exact (seqS_nx s1).trans ((seqS_nx s2).trans ((seqS_nx (a1 hwa hla)).trans ((seqS_nx (a2 hlr hll)).trans
      ((seqS_nx (ρ1 := V s0 d4 kn fo lap rs cs k dy (some (.int 2, 0)) (some (.lst ((duty rs cs dy 2).map .int), 0)) o11 o12 o13 o14) ((forS_at (kinds_at _)).trans (forL2 rfl (f3 1 (by omega) o10) rfl (f3 2 (by omega) _)))).trans
      ((seqS_nx (ρ1 := V s0 d4 kn fo lap rs cs k dy (some (.int 2, 0)) (some (.lst ((duty rs cs dy 2).map .int), 0)) (some (.lst [], 2)) o12 o13 o14) rfl).trans
      ((seqS_nx ((forS_at (kinds_at _)).trans (forL2 rfl g1 rfl g2))).trans
      ((seqS_nx (ρ1 := V s0 d4 kn fo lap rs cs k dy (some (.int 2, 0)) (some (.lst ((duty rs cs dy 2).map .int), 0)) (some (.lst ([.int (mn rs cs 1)] ++ [.int (mn rs cs 2)]), 1)) u12 u13 (some (.tup [.int (mn rs cs 1), .int (mn rs cs 2)], 0))) (by simp [V, hm])).trans
      ((seqS_nx (a7 hir)).trans
      ((seqS_nx ((forS_at (kinds_at _)).trans (forL2 rfl (a8 (.inl rfl) hr1 hc1 (fa 1)) rfl (a8 (.inr rfl) hr1 hc1 (fa 2))))).trans
      ((seqS_nx (a9 hr.ne hr1 hmr hlrr hlr)).trans (a10 hq)))))))))))
end Em
set_option Elab.async false
set_option linter.all false
set_option maxRecDepth 100000
set_option maxHeartbeats 4000000
namespace Em
open PySem L2 PyProof.Rows
def absI (x : Int) : Int := if x < 0 then -x else x
theorem v_hand {src : D} {ns : List Int} (hl : ns.length ≤ 63) (hs : slO src none (some 63) = some (.lst ((cutL ns none (some 63)).map .int), 1)) : ∃ d, F__law_hand [src] = .ok (d, 1) ∧ Hd d := by
  have hcl : (cutL ns none (some 63)).length ≤ 63 := by
    unfold cutL
    rw [List.length_take, List.length_drop]
    omega
  generalize cutL ns none (some 63) = cs at hs hcl
  have hc := compM_map (fi := seqM (slM (rdM 0) nobM (obM (cS (.int 63))))) (t := tgN 2) (te := stM (opS absO (consS (opS intO (consS (vS 2) (nilS))) (nilS)))) (vs := [2]) (ρ := [some (src, 0), none, none]) (ρ1 := [some (src, 0), none, none]) (ds := cs.map .int) (fun x => match x with | .int i => .int (absI i) | _ => .non) (by simp [hs]) (by rw [List.length_map]; omega) rfl (by
    intro x hx
    obtain ⟨i, _, rfl⟩ := List.mem_map.mp hx
    exact ⟨[some (src, 0), none, some (.int i, 0)], rfl, 0, [some (src, 0), none, some (.int i, 0)], by simp [intO, absO, toV, absI], rfl⟩)
  rw [List.map_map, show ((fun x => match x with | .int i => D.int (absI i) | _ => .non) ∘ D.int) = (D.int ∘ absI) from rfl, ← List.map_map] at hc
  refine ⟨hnd (cs.map absI) 0 0 (1 + ((cs.map absI).length : Int)) 0, ?_, cs.map absI, 0, 0, _, 0, rfl, ?_, by omega, by omega, ?_, by omega⟩
  · refine runP_rt (ρ := [some (src, 0), some (.lst ((cs.map absI).map .int), 0), none]) ((seqS_nx (ρ1 := [some (src, 0), some (.lst ((cs.map absI).map .int), 1), none]) ?_).trans ?_)
    · show setS 1 _ [some (src, 0), none, none] = _
      rw [setS_e, hc]; rfl
    · have e : lenO [.lst ((cs.map absI).map .int)] = some (.int ((cs.map absI).length : Int)) := by show some (D.int _) = _; rw [List.length_map]
      generalize cs.map absI = cc at e ⊢
      simp [lstO, e, addO, toV, hnd]
  · intro x hx
    obtain ⟨i, _, rfl⟩ := List.mem_map.mp hx
    unfold absI
    split <;> omega
  · rw [List.length_map]
    constructor <;> omega
abbrev KN : List Int := [1, 1, 2, 2, 0, 0, 0, 0]
abbrev FO : List Int := [0, 2, 4, 6]
theorem knv : RotaV KN := ⟨by decide, by decide, by decide⟩
theorem fov : CrewV FO KN.length := ⟨by decide, by decide, by decide⟩
section
variable {s0 h1 : Option VD} {tl : En} {Fm Fl Fo Fw : List D → FR}
theorem k1_ (e1 : Fm [T KN, T FO] = .ok (.tup [.int 1, .int 1], 0)) (e2 : Fl [T KN] = .ok (.int 12, 0)) (e3 : Fo [T KN, T FO, .int 1, .int 2] = .ok (T [1], 0)) :
    ifS (orT (valT (opM (liftO neO) (consM (callM Fm (consM (rdM 2) (consM (rdM 3) (nilM)))) (consM (opM tupO (consM (cM (.int 1)) (consM (cM (.int 1)) (nilM)))) nilM)))) (orT (valT (bor (consM (callM Fl (consM (rdM 2) (nilM))) nilM) (cS (.int 12)) neO)) (valT (opM (liftO neO) (consM (callM Fo (consM (rdM 2) (consM (rdM 3) (consM (cM (.int 1)) (consM (cM (.int 2)) (nilM)))))) (consM (opM tupO (consM (cM (.int 1)) (nilM))) nilM)))))) (retS (cM (.bl false))) nxS (s0 :: h1 :: some (T KN, 0) :: some (T FO, 0) :: tl) = .nx (s0 :: h1 :: some (T KN, 0) :: some (T FO, 0) :: tl) := by
  have q1 : neO [.tup [.int 1, .int 1], .tup [.int 1, .int 1]] = some (.bl false) := neO_T [1, 1]
  have q2 : neO [T [1], .tup [.int 1]] = some (.bl false) := neO_T [1]
  simp [e1, e2, e3, tupO, liftO, q1, q2, neO_int]
theorem k2_ {ρ : En} (e1 : Fl [.tup [.int 0]] = .ok (.non, 0)) (e2 : Fl [.tup [.int 2, .int 1]] = .ok (.int 0, 0)) (e3 : Fl [.tup [.int 1]] = .ok (.int 12, 0)) :
    ifS (orT (valT (bor (consM (callM Fl (consM (opM tupO (consM (cM (.int 0)) (nilM))) (nilM))) nilM) (cS .non) notO)) (orT (valT (bor (consM (callM Fl (consM (opM tupO (consM (cM (.int 2)) (consM (cM (.int 1)) (nilM)))) (nilM))) nilM) (cS (.int 0)) neO)) (valT (bor (consM (callM Fl (consM (opM tupO (consM (cM (.int 1)) (nilM))) (nilM))) nilM) (cS (.int 12)) neO)))) (retS (cM (.bl false))) nxS ρ = .nx ρ := by
  simp [e1, e2, e3, tupO, notO, isNon, neO_int]
theorem k3_ (e1 : Fw [T KN, T FO, .int 3, .int 2] = .ok (.int 1, 0)) :
    ifS (valT (bor (consM (callM Fw (consM (rdM 2) (consM (rdM 3) (consM (cM (.int 3)) (consM (cM (.int 2)) (nilM)))))) nilM) (cS (.int 1)) neO)) (retS (cM (.bl false))) nxS (s0 :: h1 :: some (T KN, 0) :: some (T FO, 0) :: tl) = .nx (s0 :: h1 :: some (T KN, 0) :: some (T FO, 0) :: tl) := by
  simp [e1, neO_int]
end
theorem known_lr {rs : List Int} (h : RotaV rs) {o : Option Int} (e : optMin (hl rs rs.length) = o) : F_least_rest [T rs] = .ok (optD o, 0) := by
  rw [v_least_rest h, e]
theorem law_src {src : D} {ns : List Int} (hl : ns.length ≤ 63) (hs : slO src none (some 63) = some (.lst ((cutL ns none (some 63)).map .int), 1)) : F_law [src] = .ok (.bl true, 0) := by
  obtain ⟨d, e0, hd⟩ := v_hand hl hs
  have m1 := v_manned knv fov
  rw [show mn KN FO 1 = 1 from by decide +kernel, show mn KN FO 2 = 1 from by decide +kernel] at m1
  have l1 := known_lr knv (o := some 12) (by decide +kernel)
  have o1 := v_on_duty knv fov (d := 1) (k := 2) (by omega) (by omega)
  rw [show duty KN FO 1 2 = [1] from by decide +kernel] at o1
  have l2 := known_lr (rs := [0]) ⟨by decide, by decide, by decide⟩ (o := none) (by decide +kernel)
  have l3 := known_lr (rs := [2, 1]) ⟨by decide, by decide, by decide⟩ (o := some 0) (by decide +kernel)
  have l4 := known_lr (rs := [1]) ⟨by decide, by decide, by decide⟩ (o := some 12) (by decide +kernel)
  have w1 := v_watch_at knv fov (k := 3) (d := 2) (by omega) (by decide) (by omega)
  rw [show at_ KN (gt FO (3 : Int).toNat + 2) = 1 from by decide +kernel] at w1
  obtain ⟨ρ', eL, d', p4, p5, p6, p7, p8, p9, p10, p11, p12, p13, p14, rfl, hd'⟩ := forL_inv (t := tgN 4) (m := lawBody) (fun i ρ => ∃ (d : D) (p4 p5 p6 p7 p8 p9 p10 p11 p12 p13 p14 : Option VD), ρ = [some (src, 0), some (d, 1), some (T KN, 0), some (T FO, 0), p4, p5, p6, p7, p8, p9, p10, p11, p12, p13, p14, none] ∧ Hd d) (rngD 0 6) 0
    [some (src, 0), some (d, 1), some (T KN, 0), some (T FO, 0), none, none, none, none, none, none, none, none, none, none, none, none] ⟨d, _, _, _, _, _, _, _, _, _, _, _, rfl, hd⟩ (by
      rintro j x ρ hj ⟨d, p4, p5, p6, p7, p8, p9, p10, p11, p12, p13, p14, rfl, hd⟩
      obtain ⟨d', q5, q6, q7, q8, q9, q10, q11, q12, q13, q14, e, hd'⟩ := body_ok (s0 := some (src, 0)) (kn := some (T KN, 0)) (fo := some (T FO, 0)) (lap := some (x, 0)) (o5 := p5) (o6 := p6) (o7 := p7) (o8 := p8) (o9 := p9) (o10 := p10) (o11 := p11) (o12 := p12) (o13 := p13) (o14 := p14) hd
      exact ⟨_, _, rfl, e, d', _, _, _, _, _, _, _, _, _, _, _, rfl, hd'⟩)
  refine runP_rt (dk := (.bl true, 0)) (ρ := [some (src, 0), some (d', 1), some (T KN, 0), some (T FO, 0), p4, p5, p6, p7, p8, p9, p10, p11, p12, p13, p14, none]) ?_
  refine (seqS_nx (ρ1 := [some (src, 0), some (d, 1), none, none, none, none, none, none, none, none, none, none, none, none, none, none]) ?_).trans ?_
  · show setS 1 (callM F__law_hand (consM (rdM 0) (nilM))) [some (src, 0), none, none, none, none, none, none, none, none, none, none, none, none, none, none, none] = _
    simp [e0]
  refine (seqS_nx (ρ1 := [some (src, 0), some (d, 1), some (T KN, 0), some (T FO, 0), none, none, none, none, none, none, none, none, none, none, none, none]) (by simp [tupO, tgT, tgs, tgN, T])).trans ?_
  refine (seqS_nx (k1_ m1 l1 o1)).trans ?_
  refine (seqS_nx (k2_ l2 l3 l4)).trans ?_
  refine (seqS_nx (k3_ w1)).trans ?_
  refine (seqS_nx ((forS_at (opI_at (ds := [(.int 6, 0)]) (r := rngD 0 6) (by simp) (by rw [rng1_at ⟨by omega, by omega⟩]; rfl))).trans eL)).trans ?_
  rfl
theorem law_true : ∀ ns : List Int, ns.length ≤ 63 → F_law [.scr ns] = .ok (.bl true, 0) ∧ F_law [.lst (ns.map .int)] = .ok (.bl true, 0) := fun ns hl =>
  ⟨law_src hl rfl, law_src hl (by show some (D.lst (cutL (ns.map .int) none (some 63)), 1) = _; rw [cutL_map])⟩
end Em
set_option Elab.async false
set_option linter.all false
open PySem PySem.W PyProof.Rows in
set_option maxRecDepth 100000 in
set_option maxHeartbeats 0 in
theorem PySem.Challenge.cw_emberhall_k60_whole_rotas_and_crews_on_d_holds : PySem.Challenge.rw_emberhall_k60_whole_rotas_and_crews_on_d.Holds := by
  w_on; o_law; k_head; (case hw => w_witness2)
  k_fill
  refine Em.walk_em (l := PySem.Challenge.rw_emberhall_k60_whole_rotas_and_crews_on_d) (k := 10) rfl (by decide) rfl ⟨rfl, by decide, by decide⟩ (fun w h Y => PySem.W.km_in_of Y) ?F
  case F =>
    intro w mg fa h Y L KX G hmg
    have hT := PySem.W.km_tabs_of Y
    have b_ValueError : mg "ValueError" = none := PySem.W.mg_none_of KX G (by k_is)
    have b_abs : mg "abs" = none := PySem.W.mg_none_of KX G (by k_is)
    have b_all : mg "all" = none := PySem.W.mg_none_of KX G (by k_is)
    have b_bool : mg "bool" = none := PySem.W.mg_none_of KX G (by k_is)
    have b_enumerate : mg "enumerate" = none := PySem.W.mg_none_of KX G (by k_is)
    have b_int : mg "int" = none := PySem.W.mg_none_of KX G (by k_is)
    have b_isinstance : mg "isinstance" = none := PySem.W.mg_none_of KX G (by k_is)
    have b_len : mg "len" = none := PySem.W.mg_none_of KX G (by k_is)
    have b_list : mg "list" = none := PySem.W.mg_none_of KX G (by k_is)
    have b_min : mg "min" = none := PySem.W.mg_none_of KX G (by k_is)
    have b_range : mg "range" = none := PySem.W.mg_none_of KX G (by k_is)
    have b_tuple : mg "tuple" = none := PySem.W.mg_none_of KX G (by k_is)
    have c_NoCrew := Em.ec_mk (x := "NoCrew") KX G (by k_is) (by k_exc) (by k_is) (by k_is) (by k_is)
    have c_NoCrews := Em.ec_mk (x := "NoCrews") KX G (by k_is) (by k_exc) (by k_is) (by k_is) (by k_is)
    have c_NoDay := Em.ec_mk (x := "NoDay") KX G (by k_is) (by k_exc) (by k_is) (by k_is) (by k_is)
    have c_NoKind := Em.ec_mk (x := "NoKind") KX G (by k_is) (by k_exc) (by k_is) (by k_is) (by k_is)
    have c_NoRota := Em.ec_mk (x := "NoRota") KX G (by k_is) (by k_exc) (by k_is) (by k_is) (by k_is)
    have k_DAY_HOURS := Em.gv_int (x := "DAY_HOURS") KX G (by k_is)
    have k_DAY_WATCH := Em.gv_int (x := "DAY_WATCH") KX G (by k_is)
    have k_MOST_CREWS := Em.gv_int (x := "MOST_CREWS") KX G (by k_is)
    have k_MOST_DAY := Em.gv_loose (x := "MOST_DAY") (i := 1000000) KX L (by simp)
    have k_MOST_ROTA_DAYS := Em.gv_int (x := "MOST_ROTA_DAYS") KX G (by k_is)
    have k_NIGHT_WATCH := Em.gv_int (x := "NIGHT_WATCH") KX G (by k_is)
    have k_RESTING := Em.gv_int (x := "RESTING") KX G (by k_is)
    have k_WATCH_BEGINS := Em.gv_tupI (x := "WATCH_BEGINS") (ns := [0, 8, 20]) KX G (by k_is) (by k_is) (by decide) (.cons ⟨_, rfl⟩ (.cons ⟨_, rfl⟩ (.cons ⟨_, rfl⟩ .nil)))
    have k_WATCH_HOURS := Em.gv_int (x := "WATCH_HOURS") KX G (by k_is)
    have d__law_draw := Em.def_mk (x := "_law_draw") (st := Em.s__law_draw) (ps := ["hand", "bound"]) KX G (by k_is) (by k_is) (by k_is) (by k_is) (fun _ _ _ _ _ _ us hl => match us, hl with | [_, _], _ => rfl)
    have d__law_any := Em.def_mk (x := "_law_any") (st := Em.s__law_any) (ps := ["hand", "things"]) KX G (by k_is) (by k_is) (by k_is) (by k_is) (fun _ _ _ _ _ _ us hl => match us, hl with | [_, _], _ => rfl)
    have d__law_at := Em.def_mk (x := "_law_at") (st := Em.s__law_at) (ps := ["rota", "crews", "crew", "day"]) KX G (by k_is) (by k_is) (by k_is) (by k_is) (fun _ _ _ _ _ _ us hl => match us, hl with | [_, _, _, _], _ => rfl)
    have d__law_hand := Em.def_mk (x := "_law_hand") (st := Em.s__law_hand) (ps := ["script"]) KX G (by k_is) (by k_is) (by k_is) (by k_is) (fun _ _ _ _ _ _ us hl => match us, hl with | [_], _ => rfl)
    have d__law_hours := Em.def_mk (x := "_law_hours") (st := Em.s__law_hours) (ps := ["day", "kind"]) KX G (by k_is) (by k_is) (by k_is) (by k_is) (fun _ _ _ _ _ _ us hl => match us, hl with | [_, _], _ => rfl)
    have d__law_next := Em.def_mk (x := "_law_next") (st := Em.s__law_next) (ps := ["rota", "crews", "crew", "day"]) KX G (by k_is) (by k_is) (by k_is) (by k_is) (fun _ _ _ _ _ _ us hl => match us, hl with | [_, _, _, _], _ => rfl)
    have d__law_least := Em.def_mk (x := "_law_least") (st := Em.s__law_least) (ps := ["rota"]) KX G (by k_is) (by k_is) (by k_is) (by k_is) (fun _ _ _ _ _ _ us hl => match us, hl with | [_], _ => rfl)
    have d__law_odd := Em.def_mk (x := "_law_odd") (st := Em.s__law_odd) (ps := ["hand"]) KX G (by k_is) (by k_is) (by k_is) (by k_is) (fun _ _ _ _ _ _ us hl => match us, hl with | [_], _ => rfl)
    have d_is_sized := Em.def_mk (x := "is_sized") (st := Em.s_is_sized) (ps := ["thing", "low", "high"]) KX G (by k_is) (by k_is) (by k_is) (by k_is) (fun _ _ _ _ _ _ us hl => match us, hl with | [_, _, _], _ => rfl)
    have d_is_integer := Em.def_mk (x := "is_integer") (st := Em.s_is_integer) (ps := ["thing"]) KX G (by k_is) (by k_is) (by k_is) (by k_is) (fun _ _ _ _ _ _ us hl => match us, hl with | [_], _ => rfl)
    have d_is_within := Em.def_mk (x := "is_within") (st := Em.s_is_within) (ps := ["thing", "low", "high"]) KX G (by k_is) (by k_is) (by k_is) (by k_is) (fun _ _ _ _ _ _ us hl => match us, hl with | [_, _, _], _ => rfl)
    have d_is_rota := Em.def_mk (x := "is_rota") (st := Em.s_is_rota) (ps := ["thing"]) KX G (by k_is) (by k_is) (by k_is) (by k_is) (fun _ _ _ _ _ _ us hl => match us, hl with | [_], _ => rfl)
    have d_check_rota := Em.def_mk (x := "check_rota") (st := Em.s_check_rota) (ps := ["rota"]) KX G (by k_is) (by k_is) (by k_is) (by k_is) (fun _ _ _ _ _ _ us hl => match us, hl with | [_], _ => rfl)
    have d_had := Em.def_mk (x := "had") (st := Em.s_had) (ps := ["rota", "crew", "day"]) KX G (by k_is) (by k_is) (by k_is) (by k_is) (fun _ _ _ _ _ _ us hl => match us, hl with | [_, _, _], _ => rfl)
    have d_next_watch := Em.def_mk (x := "next_watch") (st := Em.s_next_watch) (ps := ["rota", "crew", "day", "step"]) KX G (by k_is) (by k_is) (by k_is) (by k_is) (fun _ _ _ _ _ _ us hl => match us, hl with | [_, _, _, _], _ => rfl)
    have d_rest_hours := Em.def_mk (x := "rest_hours") (st := Em.s_rest_hours) (ps := ["first", "later", "days"]) KX G (by k_is) (by k_is) (by k_is) (by k_is) (fun _ _ _ _ _ _ us hl => match us, hl with | [_, _, _], _ => rfl)
    have d_least_rest := Em.def_mk (x := "least_rest") (st := Em.s_least_rest) (ps := ["rota"]) KX G (by k_is) (by k_is) (by k_is) (by k_is) (fun _ _ _ _ _ _ us hl => match us, hl with | [_], _ => rfl)
    have d_check_crews := Em.def_mk (x := "check_crews") (st := Em.s_check_crews) (ps := ["rota", "crews"]) KX G (by k_is) (by k_is) (by k_is) (by k_is) (fun _ _ _ _ _ _ us hl => match us, hl with | [_, _], _ => rfl)
    have d_duty_lot := Em.def_mk (x := "duty_lot") (st := Em.s_duty_lot) (ps := ["rota", "crews", "day", "kind"]) KX G (by k_is) (by k_is) (by k_is) (by k_is) (fun _ _ _ _ _ _ us hl => match us, hl with | [_, _, _, _], _ => rfl)
    have d_manned := Em.def_mk (x := "manned") (st := Em.s_manned) (ps := ["rota", "crews"]) KX G (by k_is) (by k_is) (by k_is) (by k_is) (fun _ _ _ _ _ _ us hl => match us, hl with | [_, _], _ => rfl)
    have d_check_day := Em.def_mk (x := "check_day") (st := Em.s_check_day) (ps := ["day"]) KX G (by k_is) (by k_is) (by k_is) (by k_is) (fun _ _ _ _ _ _ us hl => match us, hl with | [_], _ => rfl)
    have d_on_duty := Em.def_mk (x := "on_duty") (st := Em.s_on_duty) (ps := ["rota", "crews", "day", "kind"]) KX G (by k_is) (by k_is) (by k_is) (by k_is) (fun _ _ _ _ _ _ us hl => match us, hl with | [_, _, _, _], _ => rfl)
    have d_check_crew := Em.def_mk (x := "check_crew") (st := Em.s_check_crew) (ps := ["crews", "crew"]) KX G (by k_is) (by k_is) (by k_is) (by k_is) (fun _ _ _ _ _ _ us hl => match us, hl with | [_, _], _ => rfl)
    have d_watch_at := Em.def_mk (x := "watch_at") (st := Em.s_watch_at) (ps := ["rota", "crews", "crew", "day"]) KX G (by k_is) (by k_is) (by k_is) (by k_is) (fun _ _ _ _ _ _ us hl => match us, hl with | [_, _, _, _], _ => rfl)
    have d__law_rota := Em.def_mk (x := "_law_rota") (st := Em.s__law_rota) (ps := ["hand"]) KX G (by k_is) (by k_is) (by k_is) (by k_is) (fun _ _ _ _ _ _ us hl => match us, hl with | [_], _ => rfl)
    have d__law_word := Em.def_mk (x := "_law_word") (st := Em.s__law_word) (ps := ["call"]) KX G (by k_is) (by k_is) (by k_is) (by k_is) (fun _ _ _ _ _ _ us hl => match us, hl with | [_], _ => rfl)
    have D__law_refused_right := Em.defC_mk (x := "_law_refused_right") (st := Em.s__law_refused_right) (ps := ["hand"]) KX G (by k_is) (by k_is) (by k_is) (by k_is) (fun _ _ _ _ _ _ us hl => match us, hl with | [_], _ => rfl)
    obtain ⟨fd__law_refused_right, hm__law_refused_right, F__law_refused_right, hb__law_refused_right, e__law_refused_right⟩ := D__law_refused_right
    have D_law := Em.defC_mk (x := "law") (st := Em.s_law) (ps := ["script"]) KX G (by k_is) (by k_is) (by k_is) (by k_is) (fun _ _ _ _ _ _ us hl => match us, hl with | [_], _ => rfl)
    obtain ⟨fd_law, hm_law, F_law, hb_law, e_law⟩ := D_law
    have ef := hmg.symm.trans hm_law
    obtain rfl : fa = _ := PySem.Value.ref.inj (Option.some.inj ef)
    have gE := PySem.W.mg_of (n := "EmberError") KX G (by k_is)
    have x_NoCrew := Em.ecx_mk (x := "NoCrew") (n := "EmberError") KX G (by k_is) (by k_is) (by k_is) (by k_is) (by k_is) (by k_is) (by k_is) (by k_is) (by k_is) (by k_is) (by k_is) (by k_is) (by k_is) (by k_is) (by k_is) (by k_is)
    have x_NoCrews := Em.ecx_mk (x := "NoCrews") (n := "EmberError") KX G (by k_is) (by k_is) (by k_is) (by k_is) (by k_is) (by k_is) (by k_is) (by k_is) (by k_is) (by k_is) (by k_is) (by k_is) (by k_is) (by k_is) (by k_is) (by k_is)
    have x_NoDay := Em.ecx_mk (x := "NoDay") (n := "EmberError") KX G (by k_is) (by k_is) (by k_is) (by k_is) (by k_is) (by k_is) (by k_is) (by k_is) (by k_is) (by k_is) (by k_is) (by k_is) (by k_is) (by k_is) (by k_is) (by k_is)
    have x_NoKind := Em.ecx_mk (x := "NoKind") (n := "EmberError") KX G (by k_is) (by k_is) (by k_is) (by k_is) (by k_is) (by k_is) (by k_is) (by k_is) (by k_is) (by k_is) (by k_is) (by k_is) (by k_is) (by k_is) (by k_is) (by k_is)
    have x_NoRest := Em.ecx_mk (x := "NoRest") (n := "EmberError") KX G (by k_is) (by k_is) (by k_is) (by k_is) (by k_is) (by k_is) (by k_is) (by k_is) (by k_is) (by k_is) (by k_is) (by k_is) (by k_is) (by k_is) (by k_is) (by k_is)
    have x_NoRota := Em.ecx_mk (x := "NoRota") (n := "EmberError") KX G (by k_is) (by k_is) (by k_is) (by k_is) (by k_is) (by k_is) (by k_is) (by k_is) (by k_is) (by k_is) (by k_is) (by k_is) (by k_is) (by k_is) (by k_is) (by k_is)
    have x_NoWatch := Em.ecx_mk (x := "NoWatch") (n := "EmberError") KX G (by k_is) (by k_is) (by k_is) (by k_is) (by k_is) (by k_is) (by k_is) (by k_is) (by k_is) (by k_is) (by k_is) (by k_is) (by k_is) (by k_is) (by k_is) (by k_is)
    have wd0 := fun (P : PySem.Program) (w' : PySem.World) (base : PySem.Heap) (T : List (PySem.Addr × PySem.Str)) => Em.wd_mk (P := P) (w := w') (base := base) (T := T) d__law_word gE b_isinstance b_ValueError x_NoCrew x_NoCrews x_NoDay x_NoKind x_NoRest x_NoRota x_NoWatch (by k_is) (by k_is) (by k_is) (by k_is) (by k_is) (by k_is) (by k_is) (by k_is) (by k_is) (by k_is) (by k_is) (by k_is) (by k_is) (by k_is) (by k_is) (by k_is) (by k_is) (by k_is) (by k_is) (by k_is) (by k_is) (by k_is) (by k_is) (by k_is) (by k_is) (by k_is) (by k_is) (by k_is) (by k_is) (by k_is) (by k_is) (by k_is) (by k_is) (by k_is) (by k_is) (by k_is) (by k_is) (by k_is) (by k_is) (by k_is) (by k_is) (by k_is) (by k_is) (by k_is) (by k_is) (by k_is) (by k_is) (by k_is) (by k_is)
    refine ⟨fd_law, [(Em.cOf F__law_refused_right, 284)], [(284, Em.lq__law_refused_right (Em.cOf F__law_refused_right))], Em.F_law, ["script"], rfl, ?hT, ?nT, ?C, ?hb, ?hTc, Em.law_true, fun base KX2 G2 TB => ?ok⟩
    (case ok => exact Em.all_ok ⟨b_abs, b_all, b_bool, b_enumerate, b_int, b_isinstance, b_len, b_list, b_min, b_range, b_tuple, c_NoCrew, c_NoCrews, c_NoDay, c_NoKind, c_NoRota, k_DAY_HOURS, k_DAY_WATCH, k_MOST_CREWS, k_MOST_DAY, k_MOST_ROTA_DAYS, k_NIGHT_WATCH, k_RESTING, k_WATCH_BEGINS, k_WATCH_HOURS, d__law_draw, d__law_any, d__law_at, d__law_hand, d__law_hours, d__law_next, d__law_least, d__law_odd, d_is_sized, d_is_integer, d_is_within, d_is_rota, d_check_rota, d_had, d_next_watch, d_rest_hours, d_least_rest, d_check_crews, d_duty_lot, d_manned, d_check_day, d_on_duty, d_check_crew, d_watch_at, d__law_rota, wd0 _ _ _ _⟩ (TB _ (List.mem_cons_self)) (List.mem_cons_self) (by intro p hp e; simp only [List.mem_cons, List.mem_nil_iff, or_false] at hp; rcases hp with rfl <;> first | rfl | (exfalso; revert e; decide)) F__law_refused_right hm__law_refused_right hb__law_refused_right F_law hm_law hb_law)
    (case hT => intro p hp; simp only [List.mem_cons, List.mem_nil_iff, or_false] at hp; rcases hp with rfl <;> exact hT _ (by simp))
    (case nT => intro p hp; simp only [List.mem_cons, List.mem_nil_iff, or_false] at hp; rcases hp with rfl <;> kernel_rfl)
    (case C => intro p hp; simp only [List.mem_cons, List.mem_nil_iff, or_false] at hp; rcases hp with rfl <;> exact PySem.W.codeHd_of_K KX (by kernel_rfl))
    (case hb => subst e_law; exact fun s u => .of_eq rfl)
    (case hTc => intro p hp; simp only [List.mem_cons, List.mem_nil_iff, or_false] at hp; rcases hp with rfl <;> exact ⟨_, by first | exact List.mem_cons_self | exact List.mem_cons_of_mem _ List.mem_cons_self⟩)
