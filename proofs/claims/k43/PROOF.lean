import PyProof.Rows.All
import Wide.All
import OpenK.AllK
import Wide.FinOn
import HandS.ForMost
import HandS.ForExc
import HandS.CallSlots
import HandS.Gcd
import HandS.IsInst
import HandS.Wide
import HandS.Zip
import HandS.Defaults
import KE.KExcInit
import HandS.ExcField
import HandS.ExcIs
import HandS.ExcInit
import KE.KExcIs
import KE.KStateDown
import HandS.Head0
import HandS.Head1
import HandS.Head2
import HandS.Head3
import HandS.HeadEnd
import HandS.EndBits
import HandS.HeadHook1
import HandS.HeadHook2
import Lean
import HandS.Codes
import PySem.Challenge.RW_pageshares_k43_factors
set_option Elab.async false
set_option linter.all false
set_option maxRecDepth 100000
set_option maxHeartbeats 0
set_option maxHeartbeats 1000000
/-! data of a program's values, and how they lie in the abstract heap -/
namespace Pv
open PySem PySem.Spec PyProof.Rows L2

/-- a value as data; a list's flag: true where it is reached from one place alone, and may be changed there -/
inductive D where
  | un
  | non
  | bl (b : Bool)
  | int (i : Int)
  | str (s : Str)
  | tup (xs : List D)
  | lst (o : Bool) (xs : List D)
  | obj (o : Bool) (C : Str) (ns : List Str) (xs : List D)

abbrev FP := Addr → Prop
abbrev Fr := PySem.W.Frag

mutual
/-- all flags down -/
def fz : D → D
  | .tup xs => .tup (fzs xs)
  | .lst _ xs => .lst false (fzs xs)
  | .obj _ C ns xs => .obj false C ns (fzs xs)
  | d => d
def fzs : List D → List D
  | [] => []
  | d :: ds => fz d :: fzs ds
end
mutual
/-- no flag up -/
def isFz : D → Bool
  | .tup xs => isFzs xs
  | .lst o xs => !o && isFzs xs
  | .obj o _ _ xs => !o && isFzs xs
  | _ => true
def isFzs : List D → Bool
  | [] => true
  | d :: ds => isFz d && isFzs ds
end
mutual
/-- every list and object is of its own -/
def isOwn : D → Bool
  | .tup xs => isOwns xs
  | .lst o xs => o && isOwns xs
  | .obj o _ _ xs => o && isOwns xs
  | _ => true
def isOwns : List D → Bool
  | [] => true
  | d :: ds => isOwn d && isOwns ds
end

mutual
/-- v is d, where G is the part of the heap that stays; fp: where the lists lie that are its own -/
def Rep (K : Fr) (mg : Str → Option Value) (G H : Hp) : D → V → FP → Prop
  | .un, _, fp => ∀ a, ¬ fp a
  | .non, v, fp => v = .non ∧ ∀ a, ¬ fp a
  | .bl b, v, fp => v = .bl b ∧ ∀ a, ¬ fp a
  | .int i, v, fp => v = .int i ∧ ∀ a, ¬ fp a
  | .str s, v, fp => v = .str s ∧ ∀ a, ¬ fp a
  | .tup xs, v, fp => ∃ a vs, v = .ref a ∧ SqT K H a vs ∧ Reps K mg G H xs vs fp
  | .lst true xs, v, fp => ∃ a vs fp', v = .ref a ∧ H a = some (.lst vs) ∧ Reps K mg G H xs vs fp' ∧ ¬ fp' a ∧ ∀ b, fp b ↔ (b = a ∨ fp' b)
  | .lst false xs, v, fp => ∃ a vs, v = .ref a ∧ SqL K G a vs ∧ Reps K mg G H xs vs fp ∧ ∀ b, ¬ fp b
  | .obj true C ns xs, v, fp => ∃ a Ca dx fs fp', v = .ref a ∧ mg C = some (.ref Ca) ∧ H a = some (.ins Ca dx fs) ∧ fs.map (·.1) = ns ∧ Reps K mg G H xs (fs.map (·.2)) fp' ∧ ¬ fp' a ∧ ∀ b, fp b ↔ (b = a ∨ fp' b)
  | .obj false C ns xs, v, fp => ∃ a Ca dx fs, v = .ref a ∧ mg C = some (.ref Ca) ∧ G a = some (.ins Ca dx fs) ∧ fs.map (·.1) = ns ∧ Reps K mg G H xs (fs.map (·.2)) fp ∧ ∀ b, ¬ fp b
def Reps (K : Fr) (mg : Str → Option Value) (G H : Hp) : List D → List V → FP → Prop
  | [], [], fp => ∀ a, ¬ fp a
  | d :: ds, v :: vs, fp => ∃ f1 f2 : FP, Rep K mg G H d v f1 ∧ Reps K mg G H ds vs f2 ∧ (∀ a, f1 a → ¬ f2 a) ∧ ∀ a, fp a ↔ (f1 a ∨ f2 a)
  | [], _ :: _, _ => False
  | _ :: _, [], _ => False
end

section
variable {K : Fr} {mg : Str → Option Value} {G G' H H' : Hp}

theorem reps_len : ∀ {ds : List D} {vs : List V} {fp : FP}, Reps K mg G H ds vs fp → ds.length = vs.length
  | [], [], _, _ => rfl
  | d :: ds, v :: vs, _, h => by
    simp only [Reps] at h
    obtain ⟨_, _, _, h, _⟩ := h
    simp [reps_len h]
  | [], _ :: _, _, h => by simp only [Reps] at h
  | _ :: _, [], _, h => by simp only [Reps] at h

mutual
/-- what is kept where the heap grows -/
theorem rep_mono (hg : ∀ a o, G a = some o → G' a = some o) (ht : ∀ a vs, SqT K H a vs → SqT K H' a vs) : ∀ (d : D) {v : V} {fp : FP}, (∀ a o, fp a → H a = some o → H' a = some o) → Rep K mg G H d v fp → Rep K mg G' H' d v fp
  | .un, v, fp, hh, h => by simpa only [Rep] using h
  | .non, v, fp, hh, h => by simpa only [Rep] using h
  | .bl b, v, fp, hh, h => by simpa only [Rep] using h
  | .int i, v, fp, hh, h => by simpa only [Rep] using h
  | .str s, v, fp, hh, h => by simpa only [Rep] using h
  | .tup xs, v, fp, hh, h => by
    simp only [Rep] at h ⊢
    obtain ⟨a, vs, e, h1, h2⟩ := h
    exact ⟨a, vs, e, ht _ _ h1, reps_mono hg ht xs hh h2⟩
  | .lst true xs, v, fp, hh, h => by
    simp only [Rep] at h ⊢
    obtain ⟨a, vs, fp', e, h1, h2, h3, h4⟩ := h
    exact ⟨a, vs, fp', e, hh a _ ((h4 a).2 (.inl rfl)) h1, reps_mono hg ht xs (fun b o hb => hh b o ((h4 b).2 (.inr hb))) h2, h3, h4⟩
  | .lst false xs, v, fp, hh, h => by
    simp only [Rep] at h ⊢
    obtain ⟨a, vs, e, h1, h2, h3⟩ := h
    refine ⟨a, vs, e, ?_, reps_mono hg ht xs hh h2, h3⟩
    rcases h1 with (h1 | ⟨o, h1⟩) | h1
    · exact .inl (.inl (hg _ _ h1))
    · exact .inl (.inr ⟨o, hg _ _ h1⟩)
    · exact .inr h1
  | .obj true C ns xs, v, fp, hh, h => by
    simp only [Rep] at h ⊢
    obtain ⟨a, Ca, dx, fs, fp', e, hc, h1, hn, h2, h3, h4⟩ := h
    exact ⟨a, Ca, dx, fs, fp', e, hc, hh a _ ((h4 a).2 (.inl rfl)) h1, hn, reps_mono hg ht xs (fun b o hb => hh b o ((h4 b).2 (.inr hb))) h2, h3, h4⟩
  | .obj false C ns xs, v, fp, hh, h => by
    simp only [Rep] at h ⊢
    obtain ⟨a, Ca, dx, fs, e, hc, h1, hn, h2, h3⟩ := h
    exact ⟨a, Ca, dx, fs, e, hc, hg _ _ h1, hn, reps_mono hg ht xs hh h2, h3⟩
theorem reps_mono (hg : ∀ a o, G a = some o → G' a = some o) (ht : ∀ a vs, SqT K H a vs → SqT K H' a vs) : ∀ (ds : List D) {vs : List V} {fp : FP}, (∀ a o, fp a → H a = some o → H' a = some o) → Reps K mg G H ds vs fp → Reps K mg G' H' ds vs fp
  | [], [], fp, hh, h => by simpa only [Reps] using h
  | d :: ds, v :: vs, fp, hh, h => by
    simp only [Reps] at h ⊢
    obtain ⟨f1, f2, h1, h2, h3, h4⟩ := h
    exact ⟨f1, f2, rep_mono hg ht d (fun a o ha => hh a o ((h4 a).2 (.inl ha))) h1, reps_mono hg ht ds (fun a o ha => hh a o ((h4 a).2 (.inr ha))) h2, h3, h4⟩
  | [], _ :: _, _, _, h => by simp only [Reps] at h
  | _ :: _, [], _, _, h => by simp only [Reps] at h
end

mutual
/-- the flags down: what was its own is now part of what stays -/
theorem rep_fz (hg : ∀ a o, G a = some o → G' a = some o) : ∀ (d : D) {v : V} {fp : FP}, (∀ a o, fp a → H a = some o → G' a = some o) → Rep K mg G H d v fp → Rep K mg G' H (fz d) v (fun _ => False)
  | .un, v, fp, hh, h => by simp [fz, Rep]
  | .non, v, fp, hh, h => by simp only [Rep, fz] at h ⊢; exact ⟨h.1, fun _ z => z⟩
  | .bl b, v, fp, hh, h => by simp only [Rep, fz] at h ⊢; exact ⟨h.1, fun _ z => z⟩
  | .int i, v, fp, hh, h => by simp only [Rep, fz] at h ⊢; exact ⟨h.1, fun _ z => z⟩
  | .str s, v, fp, hh, h => by simp only [Rep, fz] at h ⊢; exact ⟨h.1, fun _ z => z⟩
  | .tup xs, v, fp, hh, h => by
    simp only [Rep, fz] at h ⊢
    obtain ⟨a, vs, e, h1, h2⟩ := h
    exact ⟨a, vs, e, h1, reps_fz hg xs hh h2⟩
  | .lst true xs, v, fp, hh, h => by
    simp only [Rep, fz] at h ⊢
    obtain ⟨a, vs, fp', e, h1, h2, h3, h4⟩ := h
    exact ⟨a, vs, e, .inl (.inl (hh a _ ((h4 a).2 (.inl rfl)) h1)), reps_fz hg xs (fun b o hb => hh b o ((h4 b).2 (.inr hb))) h2, fun _ z => z⟩
  | .lst false xs, v, fp, hh, h => by
    simp only [Rep, fz] at h ⊢
    obtain ⟨a, vs, e, h1, h2, h3⟩ := h
    refine ⟨a, vs, e, ?_, reps_fz hg xs hh h2, fun _ z => z⟩
    rcases h1 with (h1 | ⟨o, h1⟩) | h1
    · exact .inl (.inl (hg _ _ h1))
    · exact .inl (.inr ⟨o, hg _ _ h1⟩)
    · exact .inr h1
  | .obj true C ns xs, v, fp, hh, h => by
    simp only [Rep, fz] at h ⊢
    obtain ⟨a, Ca, dx, fs, fp', e, hc, h1, hn, h2, h3, h4⟩ := h
    exact ⟨a, Ca, dx, fs, e, hc, hh a _ ((h4 a).2 (.inl rfl)) h1, hn, reps_fz hg xs (fun b o hb => hh b o ((h4 b).2 (.inr hb))) h2, fun _ z => z⟩
  | .obj false C ns xs, v, fp, hh, h => by
    simp only [Rep, fz] at h ⊢
    obtain ⟨a, Ca, dx, fs, e, hc, h1, hn, h2, h3⟩ := h
    exact ⟨a, Ca, dx, fs, e, hc, hg _ _ h1, hn, reps_fz hg xs hh h2, fun _ z => z⟩
theorem reps_fz (hg : ∀ a o, G a = some o → G' a = some o) : ∀ (ds : List D) {vs : List V} {fp : FP}, (∀ a o, fp a → H a = some o → G' a = some o) → Reps K mg G H ds vs fp → Reps K mg G' H (fzs ds) vs (fun _ => False)
  | [], [], fp, hh, h => by simp [Reps, fzs]
  | d :: ds, v :: vs, fp, hh, h => by
    simp only [Reps, fzs] at h ⊢
    obtain ⟨f1, f2, h1, h2, h3, h4⟩ := h
    exact ⟨fun _ => False, fun _ => False, rep_fz hg d (fun a o ha => hh a o ((h4 a).2 (.inl ha))) h1, reps_fz hg ds (fun a o ha => hh a o ((h4 a).2 (.inr ha))) h2, fun _ z => z.elim, fun _ => by simp⟩
  | [], _ :: _, _, _, h => by simp only [Reps] at h
  | _ :: _, [], _, _, h => by simp only [Reps] at h
end

mutual
/-- no flags up: no place of its own -/
theorem rep_emp : ∀ (d : D) {v : V} {fp : FP}, isFz d = true → Rep K mg G H d v fp → ∀ a, ¬ fp a
  | .un, v, fp, e, h => by simpa only [Rep] using h
  | .non, v, fp, e, h => by simp only [Rep] at h; exact h.2
  | .bl b, v, fp, e, h => by simp only [Rep] at h; exact h.2
  | .int i, v, fp, e, h => by simp only [Rep] at h; exact h.2
  | .str s, v, fp, e, h => by simp only [Rep] at h; exact h.2
  | .tup xs, v, fp, e, h => by
    simp only [Rep, isFz] at h e
    obtain ⟨a, vs, _, h1, h2⟩ := h
    exact reps_emp xs e h2
  | .lst true xs, v, fp, e, h => by simp [isFz] at e
  | .lst false xs, v, fp, e, h => by
    simp only [Rep] at h
    obtain ⟨a, vs, _, _, _, h3⟩ := h
    exact h3
  | .obj true C ns xs, v, fp, e, h => by simp [isFz] at e
  | .obj false C ns xs, v, fp, e, h => by
    simp only [Rep] at h
    obtain ⟨a, Ca, dx, fs, _, _, _, _, _, h3⟩ := h
    exact h3
theorem reps_emp : ∀ (ds : List D) {vs : List V} {fp : FP}, isFzs ds = true → Reps K mg G H ds vs fp → ∀ a, ¬ fp a
  | [], [], fp, e, h => by simpa only [Reps] using h
  | d :: ds, v :: vs, fp, e, h => by
    simp only [Reps, isFzs, Bool.and_eq_true] at h e
    obtain ⟨f1, f2, h1, h2, h3, h4⟩ := h
    intro a ha
    rcases (h4 a).1 ha with z | z
    · exact rep_emp d e.1 h1 a z
    · exact reps_emp ds e.2 h2 a z
  | [], _ :: _, _, _, h => by simp only [Reps] at h
  | _ :: _, [], _, _, h => by simp only [Reps] at h
end

mutual
theorem isFz_fz : ∀ d : D, isFz (fz d) = true
  | .un => rfl
  | .non => rfl
  | .bl _ => rfl
  | .int _ => rfl
  | .str _ => rfl
  | .tup xs => by simp only [fz, isFz]; exact isFzs_fzs xs
  | .lst _ xs => by simp only [fz, isFz]; simp [isFzs_fzs xs]
  | .obj _ _ _ xs => by simp only [fz, isFz]; simp [isFzs_fzs xs]
theorem isFzs_fzs : ∀ ds : List D, isFzs (fzs ds) = true
  | [] => rfl
  | d :: ds => by simp only [fzs, isFzs, isFz_fz d, isFzs_fzs ds, Bool.and_self]
end
mutual
theorem fz_id : ∀ d : D, isFz d = true → fz d = d
  | .un, _ => rfl
  | .non, _ => rfl
  | .bl _, _ => rfl
  | .int _, _ => rfl
  | .str _, _ => rfl
  | .tup xs, h => by simp only [fz, isFz] at h ⊢; rw [fzs_id xs h]
  | .lst o xs, h => by
    simp only [fz, isFz, Bool.and_eq_true, Bool.not_eq_true'] at h ⊢
    rw [fzs_id xs h.2, h.1]
  | .obj o _ _ xs, h => by
    simp only [fz, isFz, Bool.and_eq_true, Bool.not_eq_true'] at h ⊢
    rw [fzs_id xs h.2, h.1]
theorem fzs_id : ∀ ds : List D, isFzs ds = true → fzs ds = ds
  | [], _ => rfl
  | d :: ds, h => by
    simp only [isFzs, Bool.and_eq_true] at h
    simp only [fzs]
    rw [fz_id d h.1, fzs_id ds h.2]
end
theorem fzs_map : ∀ ds : List D, fzs ds = ds.map fz
  | [] => rfl
  | d :: ds => by simp only [fzs, List.map_cons, fzs_map ds]
mutual
/-- where everything is its own, what stays doesn't matter -/
theorem rep_own : ∀ (d : D) {v : V} {fp : FP}, isOwn d = true → Rep K mg G H d v fp → Rep K mg G' H d v fp
  | .un, v, fp, e, h => by simpa only [Rep] using h
  | .non, v, fp, e, h => by simpa only [Rep] using h
  | .bl b, v, fp, e, h => by simpa only [Rep] using h
  | .int i, v, fp, e, h => by simpa only [Rep] using h
  | .str s, v, fp, e, h => by simpa only [Rep] using h
  | .tup xs, v, fp, e, h => by
    simp only [Rep, isOwn] at h e ⊢
    obtain ⟨a, vs, e1, h1, h2⟩ := h
    exact ⟨a, vs, e1, h1, reps_own xs e h2⟩
  | .lst true xs, v, fp, e, h => by
    simp only [Rep, isOwn, Bool.true_and] at h e ⊢
    obtain ⟨a, vs, fp', e1, h1, h2, h3, h4⟩ := h
    exact ⟨a, vs, fp', e1, h1, reps_own xs e h2, h3, h4⟩
  | .lst false xs, v, fp, e, h => by simp [isOwn] at e
  | .obj true C ns xs, v, fp, e, h => by
    simp only [Rep, isOwn, Bool.true_and] at h e ⊢
    obtain ⟨a, Ca, dx, fs, fp', e1, hc, h1, hn, h2, h3, h4⟩ := h
    exact ⟨a, Ca, dx, fs, fp', e1, hc, h1, hn, reps_own xs e h2, h3, h4⟩
  | .obj false C ns xs, v, fp, e, h => by simp [isOwn] at e
theorem reps_own : ∀ (ds : List D) {vs : List V} {fp : FP}, isOwns ds = true → Reps K mg G H ds vs fp → Reps K mg G' H ds vs fp
  | [], [], fp, e, h => by simpa only [Reps] using h
  | d :: ds, v :: vs, fp, e, h => by
    simp only [Reps, isOwns, Bool.and_eq_true] at h e ⊢
    obtain ⟨f1, f2, h1, h2, h3, h4⟩ := h
    exact ⟨f1, f2, rep_own d e.1 h1, reps_own ds e.2 h2, h3, h4⟩
  | [], _ :: _, _, _, h => by simp only [Reps] at h
  | _ :: _, [], _, _, h => by simp only [Reps] at h
end

mutual
/-- what is its own stands there -/
theorem rep_there : ∀ (d : D) {v : V} {fp : FP}, Rep K mg G H d v fp → ∀ a, fp a → (∃ xs, H a = some (.lst xs)) ∨ ∃ C dx fs, H a = some (.ins C dx fs)
  | .un, v, fp, h, a, ha => by simp only [Rep] at h; exact absurd ha (h a)
  | .non, v, fp, h, a, ha => by simp only [Rep] at h; exact absurd ha (h.2 a)
  | .bl b, v, fp, h, a, ha => by simp only [Rep] at h; exact absurd ha (h.2 a)
  | .int i, v, fp, h, a, ha => by simp only [Rep] at h; exact absurd ha (h.2 a)
  | .str s, v, fp, h, a, ha => by simp only [Rep] at h; exact absurd ha (h.2 a)
  | .tup xs, v, fp, h, a, ha => by
    simp only [Rep] at h
    obtain ⟨_, vs, _, h1, h2⟩ := h
    exact reps_there xs h2 a ha
  | .lst true xs, v, fp, h, a, ha => by
    simp only [Rep] at h
    obtain ⟨b, vs, fp', e, h1, h2, h3, h4⟩ := h
    rcases (h4 a).1 ha with z | z
    · subst z; exact .inl ⟨_, h1⟩
    · exact reps_there xs h2 a z
  | .lst false xs, v, fp, h, a, ha => by
    simp only [Rep] at h
    obtain ⟨b, vs, e, h1, h2, h3⟩ := h
    exact absurd ha (h3 a)
  | .obj true C ns xs, v, fp, h, a, ha => by
    simp only [Rep] at h
    obtain ⟨b, Ca, dx, fs, fp', e, hc, h1, hn, h2, h3, h4⟩ := h
    rcases (h4 a).1 ha with z | z
    · subst z; exact .inr ⟨_, _, _, h1⟩
    · exact reps_there xs h2 a z
  | .obj false C ns xs, v, fp, h, a, ha => by
    simp only [Rep] at h
    obtain ⟨b, Ca, dx, fs, e, hc, h1, hn, h2, h3⟩ := h
    exact absurd ha (h3 a)
theorem reps_there : ∀ (ds : List D) {vs : List V} {fp : FP}, Reps K mg G H ds vs fp → ∀ a, fp a → (∃ xs, H a = some (.lst xs)) ∨ ∃ C dx fs, H a = some (.ins C dx fs)
  | [], [], fp, h, a, ha => by simp only [Reps] at h; exact absurd ha (h a)
  | d :: ds, v :: vs, fp, h, a, ha => by
    simp only [Reps] at h
    obtain ⟨f1, f2, h1, h2, h3, h4⟩ := h
    rcases (h4 a).1 ha with z | z
    · exact rep_there d h1 a z
    · exact reps_there ds h2 a z
  | [], _ :: _, _, h, _, _ => by simp only [Reps] at h
  | _ :: _, [], _, h, _, _ => by simp only [Reps] at h
end
end
end Pv

set_option maxHeartbeats 1000000
namespace Pv
open PySem PySem.Spec PyProof.Rows L2

section
variable {K : Fr} {mg : Str → Option Value} {G G' G1 G2 H H' H1 H2 : Hp} {fp fp' f1 f2 f3 : FP}

/-- the same places, said otherwise -/
theorem rep_iff {d : D} {v : V} (h : Rep K mg G H d v f1) (e : ∀ a, f1 a ↔ f2 a) : Rep K mg G H d v f2 := by
  have : f1 = f2 := funext fun a => propext (e a)
  rw [← this]; exact h
theorem reps_iff {ds : List D} {vs : List V} (h : Reps K mg G H ds vs f1) (e : ∀ a, f1 a ↔ f2 a) : Reps K mg G H ds vs f2 := by
  have : f1 = f2 := funext fun a => propext (e a)
  rw [← this]; exact h

/-- slots -/
def RepO (K : Fr) (mg : Str → Option Value) (G H : Hp) (d : D) (ov : Option V) (fp : FP) : Prop :=
  match ov with
  | some v => Rep K mg G H d v fp
  | none => d = .un ∧ ∀ a, ¬ fp a
def RepsO (K : Fr) (mg : Str → Option Value) (G H : Hp) : List D → List (Option V) → FP → Prop
  | [], [], fp => ∀ a, ¬ fp a
  | d :: ds, v :: vs, fp => ∃ f1 f2 : FP, RepO K mg G H d v f1 ∧ RepsO K mg G H ds vs f2 ∧ (∀ a, f1 a → ¬ f2 a) ∧ ∀ a, fp a ↔ (f1 a ∨ f2 a)
  | [], _ :: _, _ => False
  | _ :: _, [], _ => False
theorem repO_un {ov : Option V} (h : ∀ a, ¬ fp a) : RepO K mg G H .un ov fp := by
  cases ov with
  | none => exact ⟨rfl, h⟩
  | some v => simp only [RepO, Rep]; exact h
theorem repO_mono {d : D} {ov : Option V} (hg : ∀ a o, G a = some o → G' a = some o) (ht : ∀ a vs, SqT K H a vs → SqT K H' a vs) (hh : ∀ a o, fp a → H a = some o → H' a = some o) (h : RepO K mg G H d ov fp) : RepO K mg G' H' d ov fp := by
  cases ov with
  | none => exact h
  | some v => exact rep_mono hg ht d hh h
theorem repO_there {d : D} {ov : Option V} (h : RepO K mg G H d ov fp) : ∀ a, fp a → (∃ xs, H a = some (.lst xs)) ∨ ∃ C dx fs, H a = some (.ins C dx fs) := by
  cases ov with
  | none => exact fun a ha => absurd ha (h.2 a)
  | some v => exact rep_there d h
theorem repsO_len : ∀ {ds : List D} {vs : List (Option V)} {fp : FP}, RepsO K mg G H ds vs fp → ds.length = vs.length
  | [], [], _, _ => rfl
  | d :: ds, v :: vs, _, h => by
    obtain ⟨_, _, _, h, _⟩ := h
    simp [repsO_len h]
  | [], _ :: _, _, h => h.elim
  | _ :: _, [], _, h => h.elim
theorem repsO_iff {ds : List D} {vs : List (Option V)} (h : RepsO K mg G H ds vs f1) (e : ∀ a, f1 a ↔ f2 a) : RepsO K mg G H ds vs f2 := by
  have : f1 = f2 := funext fun a => propext (e a)
  rw [← this]; exact h
theorem repsO_mono (hg : ∀ a o, G a = some o → G' a = some o) (ht : ∀ a vs, SqT K H a vs → SqT K H' a vs) : ∀ {ds : List D} {vs : List (Option V)} {fp : FP}, (∀ a o, fp a → H a = some o → H' a = some o) → RepsO K mg G H ds vs fp → RepsO K mg G' H' ds vs fp
  | [], [], fp, hh, h => h
  | d :: ds, v :: vs, fp, hh, h => by
    obtain ⟨f1, f2, h1, h2, h3, h4⟩ := h
    exact ⟨f1, f2, repO_mono hg ht (fun a o ha => hh a o ((h4 a).2 (.inl ha))) h1, repsO_mono hg ht (fun a o ha => hh a o ((h4 a).2 (.inr ha))) h2, h3, h4⟩
  | [], _ :: _, _, _, h => h.elim
  | _ :: _, [], _, _, h => h.elim
theorem repsO_there : ∀ {ds : List D} {vs : List (Option V)} {fp : FP}, RepsO K mg G H ds vs fp → ∀ a, fp a → (∃ xs, H a = some (.lst xs)) ∨ ∃ C dx fs, H a = some (.ins C dx fs)
  | [], [], fp, h, a, ha => absurd ha (h a)
  | d :: ds, v :: vs, fp, h, a, ha => by
    obtain ⟨f1, f2, h1, h2, h3, h4⟩ := h
    rcases (h4 a).1 ha with z | z
    · exact repO_there h1 a z
    · exact repsO_there h2 a z
  | [], _ :: _, _, h, _, _ => h.elim
  | _ :: _, [], _, h, _, _ => h.elim
/-- one slot taken out -/
theorem repsO_take : ∀ {ds : List D} {vs : List (Option V)} {fp : FP} {s : Nat} {d : D} {ov : Option V}, RepsO K mg G H ds vs fp → ds[s]? = some d → vs[s]? = some ov →
    ∃ f1 f2 : FP, RepO K mg G H d ov f1 ∧ RepsO K mg G H (ds.set s .un) vs f2 ∧ (∀ a, f1 a → ¬ f2 a) ∧ ∀ a, fp a ↔ (f1 a ∨ f2 a)
  | d :: ds, v :: vs, fp, 0, _, _, h, e1, e2 => by
    cases e1; cases e2
    obtain ⟨f1, f2, h1, h2, h3, h4⟩ := h
    refine ⟨f1, f2, h1, ⟨fun _ => False, f2, repO_un fun _ z => z, h2, fun _ z => z.elim, fun a => by simp⟩, h3, h4⟩
  | d :: ds, v :: vs, fp, s + 1, d', ov, h, e1, e2 => by
    obtain ⟨f1, f2, h1, h2, h3, h4⟩ := h
    obtain ⟨g1, g2, k1, k2, k3, k4⟩ := repsO_take (s := s) h2 (by simpa using e1) (by simpa using e2)
    refine ⟨g1, fun a => f1 a ∨ g2 a, k1, ⟨f1, g2, h1, k2, fun a ha hb => h3 a ha ((k4 a).2 (.inr hb)), fun _ => Iff.rfl⟩, fun a ha hb => ?_, fun a => ?_⟩
    · rcases hb with hb | hb
      · exact h3 a hb ((k4 a).2 (.inl ha))
      · exact k3 a ha hb
    · rw [h4 a, k4 a]
      constructor
      · rintro (z | z | z)
        · exact .inr (.inl z)
        · exact .inl z
        · exact .inr (.inr z)
      · rintro (z | z | z)
        · exact .inr (.inl z)
        · exact .inl z
        · exact .inr (.inr z)
  | [], _, _, _, _, _, _, e1, _ => by simp at e1
  | _ :: _, [], _, _, _, _, _, _, e2 => by simp at e2
/-- one slot put in; what stood there is dropped -/
theorem repsO_put : ∀ {ds : List D} {vs : List (Option V)} {f2 f1 : FP} {s : Nat} {d : D} {ov : Option V}, RepsO K mg G H ds vs f2 → RepO K mg G H d ov f1 → (∀ a, f1 a → ¬ f2 a) → s < ds.length →
    ∃ fp : FP, RepsO K mg G H (ds.set s d) (vs.set s ov) fp ∧ ∀ a, fp a → (f1 a ∨ f2 a)
  | e :: ds, v :: vs, f2, f1, 0, d, ov, h, h1, hd, _ => by
    obtain ⟨g1, g2, k1, k2, k3, k4⟩ := h
    exact ⟨fun a => f1 a ∨ g2 a, ⟨f1, g2, h1, k2, fun a ha hb => hd a ha ((k4 a).2 (.inr hb)), fun _ => Iff.rfl⟩, fun a z => z.imp id fun z => (k4 a).2 (.inr z)⟩
  | e :: ds, v :: vs, f2, f1, s + 1, d, ov, h, h1, hd, hs => by
    obtain ⟨g1, g2, k1, k2, k3, k4⟩ := h
    obtain ⟨fp, r1, r2⟩ := repsO_put (s := s) k2 h1 (fun a ha hb => hd a ha ((k4 a).2 (.inr hb))) (by simpa using hs)
    refine ⟨fun a => g1 a ∨ fp a, ⟨g1, fp, k1, r1, fun a ha hb => ?_, fun _ => Iff.rfl⟩, fun a z => ?_⟩
    · rcases r2 a hb with z | z
      · exact hd a z ((k4 a).2 (.inl ha))
      · exact k3 a ha z
    · rcases z with z | z
      · exact .inr ((k4 a).2 (.inl z))
      · exact (r2 a z).imp id fun z => (k4 a).2 (.inr z)
  | [], [], _, _, _, _, _, _, _, _, hs => by simp at hs
  | [], _ :: _, _, _, _, _, _, h, _, _, _ => h.elim
  | _ :: _, [], _, _, _, _, _, h, _, _, _ => h.elim

/-- the state: temporaries, slots -/
structure R (K : Fr) (mg : Str → Option Value) (G H : Hp) (ts : List D) (tv : List V) (rs : List D) (sg : L2.St) (fp : FP) : Prop where
  ex : ∃ ft fs : FP, Reps K mg G H ts tv ft ∧ RepsO K mg G H rs sg fs ∧ (∀ a, ft a → ¬ fs a) ∧ ∀ a, fp a ↔ (ft a ∨ fs a)
  sub : ∀ a o, G a = some o → H a = some o ∧ ¬ fp a
/-- from a state to a later one -/
structure Step (K : Fr) (G H : Hp) (fp : FP) (G' H' : Hp) (fp' : FP) : Prop where
  keep : ∀ a o, H a = some o → ¬ fp a → H' a = some o
  tups : ∀ a vs, SqT K H a vs → SqT K H' a vs
  new : ∀ a, fp' a → H a = none ∨ fp a
  grow : ∀ a o, G a = some o → G' a = some o
  lim : ∀ a o, G' a = some o → G a = some o ∨ H a = none ∨ fp a
theorem Step.refl : Step K G H fp G H fp := ⟨fun _ _ h _ => h, fun _ _ h => h, fun _ h => .inr h, fun _ _ h => h, fun _ _ h => .inl h⟩
theorem Step.less (h : ∀ a, fp' a → fp a) : Step K G H fp G H fp' := ⟨fun _ _ h _ => h, fun _ _ h => h, fun a z => .inr (h a z), fun _ _ h => h, fun _ _ h => .inl h⟩
theorem Step.trans (x : Step K G H fp G1 H1 f1) (y : Step K G1 H1 f1 G2 H2 f2) : Step K G H fp G2 H2 f2 := by
  have key : ∀ a, H1 a = none → H a = none ∨ fp a := fun a z => by
    cases e : H a with
    | none => exact .inl rfl
    | some o =>
      by_cases p : fp a
      · exact .inr p
      · rw [x.keep a o e p] at z; cases z
  refine ⟨fun a o h n => ?_, fun a vs h => y.tups a vs (x.tups a vs h), fun a z => ?_, fun a o h => y.grow a o (x.grow a o h), fun a o h => ?_⟩
  · refine y.keep a o (x.keep a o h n) fun z => ?_
    rcases x.new a z with q | q
    · rw [h] at q; cases q
    · exact n q
  · rcases y.new a z with q | q
    · exact key a q
    · exact x.new a q
  · rcases y.lim a o h with q | q | q
    · exact x.lim a o q
    · exact .inr (key a q)
    · exact .inr (x.new a q)
theorem Step.of_none (x : Step K G H fp G1 H1 f1) (a : Addr) (z : H1 a = none) : H a = none ∨ fp a := by
  cases e : H a with
  | none => exact .inl rfl
  | some o =>
    by_cases p : fp a
    · exact .inr p
    · rw [x.keep a o e p] at z; cases z

variable {ts : List D} {tv : List V} {rs : List D} {sg : L2.St} {d : D} {v : V}
theorem R.len (r : R K mg G H ts tv rs sg fp) : rs.length = sg.length := let ⟨_, _, _, h, _⟩ := r.ex; repsO_len h
theorem R.tlen (r : R K mg G H ts tv rs sg fp) : ts.length = tv.length := let ⟨_, _, h, _⟩ := r.ex; reps_len h
theorem R.there (r : R K mg G H ts tv rs sg fp) : ∀ a, fp a → (∃ xs, H a = some (.lst xs)) ∨ ∃ C dx fs, H a = some (.ins C dx fs) := fun a ha => by
  obtain ⟨ft, fs, h1, h2, h3, h4⟩ := r.ex
  rcases (h4 a).1 ha with z | z
  · exact reps_there ts h1 a z
  · exact repsO_there h2 a z
/-- the top one, apart -/
theorem R.top (r : R K mg G H (d :: ts) (v :: tv) rs sg fp) : ∃ f1 f2 : FP, Rep K mg G H d v f1 ∧ R K mg G H ts tv rs sg f2 ∧ (∀ a, f1 a → ¬ f2 a) ∧ ∀ a, fp a ↔ (f1 a ∨ f2 a) := by
  obtain ⟨⟨ft, fs, h1, h2, h3, h4⟩, sub⟩ := r
  simp only [Reps] at h1
  obtain ⟨g1, g2, k1, k2, k3, k4⟩ := h1
  refine ⟨g1, fun a => g2 a ∨ fs a, k1, ⟨⟨g2, fs, k2, h2, fun a ha => h3 a ((k4 a).2 (.inr ha)), fun _ => Iff.rfl⟩, fun a o e => ⟨(sub a o e).1, fun z => (sub a o e).2 ?_⟩⟩, fun a ha hb => ?_, fun a => ?_⟩
  · rcases z with z | z
    · exact (h4 a).2 (.inl ((k4 a).2 (.inr z)))
    · exact (h4 a).2 (.inr z)
  · rcases hb with hb | hb
    · exact k3 a ha hb
    · exact h3 a ((k4 a).2 (.inl ha)) hb
  · rw [h4 a, k4 a]
    constructor
    · rintro ((z | z) | z)
      · exact .inl z
      · exact .inr (.inl z)
      · exact .inr (.inr z)
    · rintro (z | z | z)
      · exact .inl (.inl z)
      · exact .inl (.inr z)
      · exact .inr z
/-- .. and laid on -/
theorem R.push (r : R K mg G H ts tv rs sg f2) (h : Rep K mg G H d v f1) (dj : ∀ a, f1 a → ¬ f2 a) (hg : ∀ a o, G a = some o → ¬ f1 a) : R K mg G H (d :: ts) (v :: tv) rs sg (fun a => f1 a ∨ f2 a) := by
  obtain ⟨⟨ft, fs, h1, h2, h3, h4⟩, sub⟩ := r
  refine ⟨⟨fun a => f1 a ∨ ft a, fs, ?_, h2, fun a ha hb => ?_, fun a => ?_⟩, fun a o e => ⟨(sub a o e).1, fun z => z.elim (hg a o e) (sub a o e).2⟩⟩
  · simp only [Reps]
    exact ⟨f1, ft, h, h1, fun a ha hb => dj a ha ((h4 a).2 (.inl hb)), fun _ => Iff.rfl⟩
  · rcases ha with ha | ha
    · exact dj a ha ((h4 a).2 (.inr hb))
    · exact h3 a ha hb
  · rw [h4 a, or_assoc]
theorem R.iff (r : R K mg G H ts tv rs sg f1) (e : ∀ a, f1 a ↔ f2 a) : R K mg G H ts tv rs sg f2 := by
  have : f1 = f2 := funext fun a => propext (e a)
  rw [← this]; exact r
/-- a value without places of its own is laid on -/
theorem R.pushE (r : R K mg G H ts tv rs sg fp) (h : Rep K mg G H d v (fun _ => False)) : R K mg G H (d :: ts) (v :: tv) rs sg fp :=
  (r.push h (fun _ z => z.elim) fun _ _ _ z => z).iff fun a => by simp
theorem R.drop (r : R K mg G H (d :: ts) (v :: tv) rs sg fp) : ∃ fp' : FP, R K mg G H ts tv rs sg fp' ∧ Step K G H fp G H fp' := by
  obtain ⟨f1, f2, _, r2, _, e⟩ := r.top
  exact ⟨f2, r2, .less fun a z => (e a).2 (.inr z)⟩
/-- a slot's value, taken onto the pile -/
theorem R.take {s : Nat} (r : R K mg G H ts tv rs sg fp) (e1 : rs[s]? = some d) (e2 : sg[s]? = some (some v)) : R K mg G H (d :: ts) (v :: tv) (rs.set s .un) sg fp := by
  obtain ⟨⟨ft, fs, h1, h2, h3, h4⟩, sub⟩ := r
  obtain ⟨g1, g2, k1, k2, k3, k4⟩ := repsO_take h2 e1 e2
  refine ⟨⟨fun a => g1 a ∨ ft a, g2, ?_, k2, fun a ha hb => ?_, fun a => ?_⟩, sub⟩
  · simp only [Reps]
    exact ⟨g1, ft, k1, h1, fun a ha hb => h3 a hb ((k4 a).2 (.inl ha)), fun _ => Iff.rfl⟩
  · rcases ha with ha | ha
    · exact k3 a ha hb
    · exact h3 a ha ((k4 a).2 (.inr hb))
  · rw [h4 a, k4 a]
    constructor
    · rintro (z | z | z)
      · exact .inl (.inr z)
      · exact .inl (.inl z)
      · exact .inr z
    · rintro ((z | z) | z)
      · exact .inr (.inl z)
      · exact .inl z
      · exact .inr (.inr z)
/-- .. put into a slot -/
theorem R.put {s : Nat} (r : R K mg G H (d :: ts) (v :: tv) rs sg fp) (hs : s < rs.length) : ∃ fp' : FP, R K mg G H ts tv (rs.set s d) (sg.set s (some v)) fp' ∧ Step K G H fp G H fp' := by
  obtain ⟨⟨ft, fs, h1, h2, h3, h4⟩, sub⟩ := r
  simp only [Reps] at h1
  obtain ⟨g1, g2, k1, k2, k3, k4⟩ := h1
  obtain ⟨fq, q1, q2⟩ := repsO_put (ov := some v) h2 k1 (fun a ha => h3 a ((k4 a).2 (.inl ha))) hs
  have hle : ∀ a, g2 a ∨ fq a → fp a := fun a z => by
    rcases z with z | z
    · exact (h4 a).2 (.inl ((k4 a).2 (.inr z)))
    · rcases q2 a z with z | z
      · exact (h4 a).2 (.inl ((k4 a).2 (.inl z)))
      · exact (h4 a).2 (.inr z)
  refine ⟨fun a => g2 a ∨ fq a, ⟨⟨g2, fq, k2, q1, fun a ha hb => ?_, fun _ => Iff.rfl⟩, fun a o e => ⟨(sub a o e).1, fun z => (sub a o e).2 (hle a z)⟩⟩, .less hle⟩
  rcases q2 a hb with z | z
  · exact k3 a z ha
  · exact h3 a ((k4 a).2 (.inr ha)) z
theorem set_same {α : Type} {l : List α} {s : Nat} {x : α} (h : l[s]? = some x) : l.set s x = l := by
  apply List.ext_getElem?
  intro i
  by_cases e : s = i
  · subst e
    rw [List.getElem?_set_self (List.getElem?_eq_some_iff.mp h).1, h]
  · rw [List.getElem?_set_ne e]
/-- back into its slot -/
theorem R.back {s : Nat} (r : R K mg G H (d :: ts) (v :: tv) rs sg fp) (e2 : sg[s]? = some (some v)) : ∃ fp' : FP, R K mg G H ts tv (rs.set s d) sg fp' ∧ Step K G H fp G H fp' := by
  obtain ⟨f, q, st⟩ := r.put (s := s) (by rw [r.len]; exact (List.getElem?_eq_some_iff.mp e2).1)
  rw [set_same e2] at q
  exact ⟨f, q, st⟩
/-- the top one's flags down -/
theorem R.fz (r : R K mg G H (d :: ts) (v :: tv) rs sg fp) : ∃ G' fp', R K mg G' H (fz d :: ts) (v :: tv) rs sg fp' ∧ Step K G H fp G' H fp' := by
  obtain ⟨f1, f2, h1, r2, dj, e⟩ := r.top
  let p : Addr → Prop := f1
  have hcl : ∃ G' : Hp, (∀ a o, G a = some o → G' a = some o) ∧ (∀ a o, f1 a → H a = some o → G' a = some o) ∧ ∀ a o, G' a = some o → G a = some o ∨ (f1 a ∧ H a = some o) := by
    refine ⟨fun a => @ite _ (f1 a) (Classical.propDecidable _) (H a) (G a), fun a o h => ?_, fun a o h1 h2 => ?_, fun a o h => ?_⟩
    · have n : ¬ f1 a := fun z => (r.sub a o h).2 ((e a).2 (.inl z))
      show (@ite _ (f1 a) (Classical.propDecidable _) (H a) (G a)) = some o
      rw [if_neg n]; exact h
    · show (@ite _ (f1 a) (Classical.propDecidable _) (H a) (G a)) = some o
      rw [if_pos h1]; exact h2
    · by_cases n : f1 a
      · have h' : (@ite _ (f1 a) (Classical.propDecidable _) (H a) (G a)) = some o := h
        rw [if_pos n] at h'
        exact .inr ⟨n, h'⟩
      · have h' : (@ite _ (f1 a) (Classical.propDecidable _) (H a) (G a)) = some o := h
        rw [if_neg n] at h'
        exact .inl h'
  obtain ⟨G', c1, c2, c3⟩ := hcl
  have r3 : R K mg G' H ts tv rs sg f2 := by
    obtain ⟨⟨ft, fs, k1, k2, k3, k4⟩, sub⟩ := r2
    refine ⟨⟨ft, fs, reps_mono c1 (fun _ _ h => h) ts (fun _ _ _ h => h) k1, repsO_mono c1 (fun _ _ h => h) (fun _ _ _ h => h) k2, k3, k4⟩, fun a o h => ?_⟩
    rcases c3 a o h with z | ⟨z, w⟩
    · exact sub a o z
    · exact ⟨w, dj a z⟩
  refine ⟨G', f2, r3.pushE (rep_fz c1 d c2 h1), ⟨fun _ _ h _ => h, fun _ _ h => h, fun a z => .inr ((e a).2 (.inr z)), c1, fun a o h => ?_⟩⟩
  rcases c3 a o h with z | ⟨z, w⟩
  · exact .inl z
  · exact .inr (.inr ((e a).2 (.inl z)))
/-- a frozen one twice -/
theorem R.dup (r : R K mg G H (d :: ts) (v :: tv) rs sg fp) (h : isFz d = true) : R K mg G H (d :: d :: ts) (v :: v :: tv) rs sg fp := by
  obtain ⟨f1, f2, h1, r2, dj, e⟩ := r.top
  have e1 : ∀ a, f1 a ↔ False := fun a => ⟨fun z => rep_emp d h h1 a z, fun z => z.elim⟩
  exact r.pushE (rep_iff h1 e1)
/-- the two upper ones change places -/
theorem R.swap {d2 : D} {v2 : V} (r : R K mg G H (d :: d2 :: ts) (v :: v2 :: tv) rs sg fp) : R K mg G H (d2 :: d :: ts) (v2 :: v :: tv) rs sg fp := by
  obtain ⟨f1, f2, h1, r2, dj, e⟩ := r.top
  obtain ⟨g1, g2, k1, r3, dj2, e2⟩ := r2.top
  have gs1 : ∀ a o, G a = some o → ¬ f1 a := fun a o h z => (r.sub a o h).2 ((e a).2 (.inl z))
  have gs2 : ∀ a o, G a = some o → ¬ g1 a := fun a o h z => (r2.sub a o h).2 ((e2 a).2 (.inl z))
  have r4 := r3.push h1 (fun a ha hb => dj a ha ((e2 a).2 (.inr hb))) gs1
  have r5 := r4.push k1 (fun a ha hb => by
    rcases hb with hb | hb
    · exact dj a hb ((e2 a).2 (.inl ha))
    · exact dj2 a ha hb) gs2
  refine r5.iff fun a => ?_
  rw [e a, e2 a]
  constructor
  · rintro (z | z | z)
    · exact .inr (.inl z)
    · exact .inl z
    · exact .inr (.inr z)
  · rintro (z | z | z)
    · exact .inr (.inl z)
    · exact .inl z
    · exact .inr (.inr z)
/-- a slot's value, frozen, without a change -/
theorem R.slot {s : Nat} (r : R K mg G H ts tv rs sg fp) (e1 : rs[s]? = some d) (e2 : sg[s]? = some (some v)) (hz : isFz d = true) : R K mg G H (d :: ts) (v :: tv) rs sg fp := by
  have r1 := (r.take e1 e2).dup hz
  obtain ⟨f1, f2, h1, r2, dj, e⟩ := r1.top
  have ef : ∀ a, f1 a ↔ False := fun a => ⟨fun z => rep_emp d hz h1 a z, fun z => z.elim⟩
  exact r.pushE (rep_iff h1 ef)
/-- a slot that is assigned has a value -/
theorem R.val {s : Nat} (r : R K mg G H ts tv rs sg fp) (e1 : rs[s]? = some d) (hd : d ≠ .un) : ∃ v, sg[s]? = some (some v) := by
  obtain ⟨ft, fs, h1, h2, h3, h4⟩ := r.ex
  have hs : s < sg.length := by rw [← r.len]; exact (List.getElem?_eq_some_iff.mp e1).1
  obtain ⟨g1, g2, k1, _⟩ := repsO_take h2 e1 (List.getElem?_eq_getElem hs)
  rw [List.getElem?_eq_getElem hs]
  cases q : sg[s] with
  | some v => exact ⟨v, rfl⟩
  | none =>
    rw [q] at k1
    exact absurd k1.1 hd
/-- a slot's value, frozen in its place -/
theorem R.slotFz {s : Nat} (r : R K mg G H ts tv rs sg fp) (e1 : rs[s]? = some d) (e2 : sg[s]? = some (some v)) : ∃ G' fp', R K mg G' H (Pv.fz d :: ts) (v :: tv) (rs.set s (Pv.fz d)) sg fp' ∧ Step K G H fp G' H fp' := by
  obtain ⟨G', f', r1, st1⟩ := (r.take e1 e2).fz
  obtain ⟨f'', r2, st2⟩ := (r1.dup (isFz_fz d)).back e2
  rw [List.set_set] at r2
  exact ⟨G', f'', r2, st1.trans st2⟩
/-- the whole heap as what stays: every value, frozen, to be looked at -/
theorem R.view {s : Nat} (r : R K mg G H ts tv rs sg fp) (e1 : rs[s]? = some d) (e2 : sg[s]? = some (some v)) : Rep K mg H H (Pv.fz d) v (fun _ => False) := by
  obtain ⟨f1, f2, h1, r2, dj, e⟩ := (r.take e1 e2).top
  exact rep_fz (fun a o h => (r.sub a o h).1) d (fun a o _ h => h) h1
theorem R.viewT (r : R K mg G H (d :: ts) (v :: tv) rs sg fp) : Rep K mg H H (Pv.fz d) v (fun _ => False) := by
  obtain ⟨f1, f2, h1, r2, dj, e⟩ := r.top
  exact rep_fz (fun a o h => (r.sub a o h).1) d (fun a o _ h => h) h1
end
end Pv

set_option maxHeartbeats 1000000
namespace Pv
open PySem PySem.Spec PyProof.Rows L2

/-! ### the small language -/
structure Exc where
  C : Str
  ns : List Str
  xs : List D
inductive Out where
  | ret (d : D) (outs : List D)
  | exc (x : Exc)
/-- a def by what it does: which parameters it changes in place; its answer -/
structure Fn where
  io : List Bool
  m : List D → Option Out
inductive P2 where | add | sub | mul | fdiv | mod | pow | lt | le | gt | ge | eq | ne | isn | notn
  deriving DecidableEq
inductive PF where | len | abs | min2 | max2 | minL | maxL | sum | any | all | int | gcd
  deriving DecidableEq

/- no list, no object within -/
mutual
def isSc : D → Bool
  | .tup xs => isScs xs
  | .lst _ _ => false
  | .obj _ _ _ _ => false
  | .un => false
  | _ => true
def isScs : List D → Bool
  | [] => true
  | d :: ds => isSc d && isScs ds
end
/- data that may be compared -/
mutual
def toPd : D → Option PyData
  | .non => some .none
  | .bl b => some (.bool b)
  | .int i => some (.int i)
  | .str s => some (.str s)
  | .tup xs => (toPds xs).map .tuple
  | .lst _ xs => (toPds xs).map .list
  | _ => none
def toPds : List D → Option (List PyData)
  | [] => some []
  | d :: ds => match toPd d, toPds ds with
    | some x, some xs => some (x :: xs)
    | _, _ => none
end
def mulOk (i j : Int) : Bool := decide (i.natAbs.log2 + j.natAbs.log2 < 100000000)
def powOk (i j : Int) : Bool := decide (0 ≤ j) && (decide (j ≤ 1000000) && decide (i.natAbs < 18446744073709551616))
def dEq (a b : D) : Option Bool := match toPd a, toPd b with
  | some x, some y => if SeqAt.shaped x && SeqAt.shaped y then some (PyData.eqv x y) else none
  | _, _ => none
def isNon : D → Bool
  | .non => true
  | _ => false
def d2 : P2 → D → D → Option D
  | .add, .int i, .int j => some (.int (i + j))
  | .sub, .int i, .int j => some (.int (i - j))
  | .mul, .int i, .int j => if mulOk i j then some (.int (i * j)) else none
  | .fdiv, .int i, .int j => if j = 0 then none else some (.int (i.fdiv j))
  | .mod, .int i, .int j => if j = 0 then none else some (.int (i.fmod j))
  | .pow, .int i, .int j => if powOk i j then some (.int (i ^ j.toNat)) else none
  | .lt, .int i, .int j => some (.bl (decide (i < j)))
  | .le, .int i, .int j => some (.bl (decide (i ≤ j)))
  | .gt, .int i, .int j => some (.bl (decide (j < i)))
  | .ge, .int i, .int j => some (.bl (decide (j ≤ i)))
  | .eq, .int i, .int j => some (.bl (decide (i = j)))
  | .ne, .int i, .int j => some (.bl (!decide (i = j)))
  | .eq, .str i, .str j => some (.bl (decide (i = j)))
  | .ne, .str i, .str j => some (.bl (!decide (i = j)))
  | .eq, .bl i, .bl j => some (.bl (decide (i = j)))
  | .ne, .bl i, .bl j => some (.bl (!decide (i = j)))
  | .eq, a, b => (dEq a b).map .bl
  | .ne, a, b => (dEq a b).map fun k => .bl (!k)
  | .isn, .un, _ => none
  | .isn, a, .non => some (.bl (isNon a))
  | .notn, .un, _ => none
  | .notn, a, .non => some (.bl (!isNon a))
  | _, _, _ => none
/-- the intsOf, the boolsOf of a list -/
def intsOf : List D → Option (List Int)
  | [] => some []
  | .int i :: ds => (intsOf ds).map (i :: ·)
  | _ => none
def boolsOf : List D → Option (List Bool)
  | [] => some []
  | .bl i :: ds => (boolsOf ds).map (i :: ·)
  | _ => none
def maxL : List Int → Int
  | [] => 0
  | a :: l => l.foldl (fun m x => if m < x then x else m) a
def minL : List Int → Int
  | [] => 0
  | a :: l => l.foldl (fun m x => if x < m then x else m) a
def dF : PF → List D → Option D
  | .len, [.lst _ xs] => some (.int xs.length)
  | .len, [.tup xs] => some (.int xs.length)
  | .abs, [.int i] => some (.int (if i < 0 then -i else i))
  | .min2, [.int i, .int j] => some (.int (if j < i then j else i))
  | .max2, [.int i, .int j] => some (.int (if j > i then j else i))
  | .minL, [.lst _ xs] => (intsOf xs).bind fun ns => if ns = [] then none else some (.int (minL ns))
  | .maxL, [.lst _ xs] => (intsOf xs).bind fun ns => if ns = [] then none else some (.int (maxL ns))
  | .sum, [.lst _ xs] => (intsOf xs).map fun ns => .int ns.sum
  | .any, [.lst _ xs] => (boolsOf xs).map fun ns => .bl (ns.any id)
  | .all, [.lst _ xs] => (boolsOf xs).map fun ns => .bl (ns.all id)
  | .int, [.int i] => some (.int i)
  | .int, [.bl k] => some (.int (if k then 1 else 0))
  | .gcd, [.int a, .int b] => some (.int ((Nat.gcd a.natAbs b.natAbs : Nat) : Int))
  | _, _ => none
/-- truth -/
def dT : D → Option Bool
  | .non => some false
  | .bl b => some b
  | .int i => some (i != 0)
  | .tup xs => some (!xs.isEmpty)
  | .lst _ xs => some (!xs.isEmpty)
  | _ => none
def tyName : D → Option String
  | .non => some "NoneType"
  | .bl _ => some "bool"
  | .int _ => some "int"
  | .str _ => some "str"
  | .tup _ => some "tuple"
  | .lst _ _ => some "list"
  | _ => none

section
variable {K : Fr} {mg : Str → Option Value} {G G' H H' : Hp}
mutual
theorem isFz_of_sc : ∀ {d : D}, isSc d = true → isFz d = true
  | .un, h => rfl
  | .non, h => rfl
  | .bl _, h => rfl
  | .int _, h => rfl
  | .str _, h => rfl
  | .tup xs, h => by simp only [isSc, isFz] at h ⊢; exact isFzs_of_sc h
  | .lst _ _, h => by simp [isSc] at h
  | .obj _ _ _ _, h => by simp [isSc] at h
theorem isFzs_of_sc : ∀ {ds : List D}, isScs ds = true → isFzs ds = true
  | [], _ => rfl
  | d :: ds, h => by
    simp only [isScs, isFzs, Bool.and_eq_true] at h ⊢
    exact ⟨isFz_of_sc h.1, isFzs_of_sc h.2⟩
end
mutual
theorem isOwn_of_sc : ∀ {d : D}, isSc d = true → isOwn d = true
  | .un, h => rfl
  | .non, h => rfl
  | .bl _, h => rfl
  | .int _, h => rfl
  | .str _, h => rfl
  | .tup xs, h => by simp only [isSc, isOwn] at h ⊢; exact isOwns_of_sc h
  | .lst _ _, h => by simp [isSc] at h
  | .obj _ _ _ _, h => by simp [isSc] at h
theorem isOwns_of_sc : ∀ {ds : List D}, isScs ds = true → isOwns ds = true
  | [], _ => rfl
  | d :: ds, h => by
    simp only [isScs, isOwns, Bool.and_eq_true] at h ⊢
    exact ⟨isOwn_of_sc h.1, isOwns_of_sc h.2⟩
end
/-- a value looked at -/
abbrev Vw (K : Fr) (mg : Str → Option Value) (H : Hp) (d : D) (v : V) : Prop := Rep K mg H H d v (fun _ => False)
abbrev Vws (K : Fr) (mg : Str → Option Value) (H : Hp) (ds : List D) (vs : List V) : Prop := Reps K mg H H ds vs (fun _ => False)
theorem vws_cons {d : D} {ds : List D} {v : V} {vs : List V} (h : Vws K mg H (d :: ds) (v :: vs)) : Vw K mg H d v ∧ Vws K mg H ds vs := by
  simp only [Vws, Reps] at h
  obtain ⟨f1, f2, h1, h2, _, e⟩ := h
  exact ⟨rep_iff h1 fun a => ⟨fun z => (e a).2 (.inl z), fun z => z.elim⟩, reps_iff h2 fun a => ⟨fun z => (e a).2 (.inr z), fun z => z.elim⟩⟩
theorem vws_mk {d : D} {ds : List D} {v : V} {vs : List V} (h1 : Vw K mg H d v) (h2 : Vws K mg H ds vs) : Vws K mg H (d :: ds) (v :: vs) := by
  simp only [Vws, Reps]
  exact ⟨_, _, h1, h2, fun _ z => z.elim, fun a => by simp⟩
theorem vws_nil {vs : List V} (h : Vws K mg H [] vs) : vs = [] := by
  cases vs with
  | nil => rfl
  | cons v vs => simp only [Vws, Reps] at h
theorem vws_cons' {d : D} {ds : List D} {vs : List V} (h : Vws K mg H (d :: ds) vs) : ∃ v vs', vs = v :: vs' ∧ Vw K mg H d v ∧ Vws K mg H ds vs' := by
  cases vs with
  | nil => simp only [Vws, Reps] at h
  | cons v vs => exact ⟨v, vs, rfl, vws_cons h⟩
theorem vws_get : ∀ {ds : List D} {vs : List V} {i : Nat} {d : D}, Vws K mg H ds vs → ds[i]? = some d → ∃ v, vs[i]? = some v ∧ Vw K mg H d v
  | [], _, _, _, _, e => by simp at e
  | d :: ds, vs, i, d', h, e => by
    obtain ⟨v, vs', rfl, h1, h2⟩ := vws_cons' h
    cases i with
    | zero => cases e; exact ⟨v, rfl, h1⟩
    | succ i =>
      obtain ⟨w, e1, h3⟩ := vws_get (i := i) h2 (by simpa using e)
      exact ⟨w, by simpa using e1, h3⟩
theorem vw_int {i : Int} {v : V} (h : Vw K mg H (.int i) v) : v = .int i := by simp only [Vw, Rep] at h; exact h.1
theorem vw_bl {i : Bool} {v : V} (h : Vw K mg H (.bl i) v) : v = .bl i := by simp only [Vw, Rep] at h; exact h.1
theorem vw_str {i : Str} {v : V} (h : Vw K mg H (.str i) v) : v = .str i := by simp only [Vw, Rep] at h; exact h.1
theorem vw_non {v : V} (h : Vw K mg H .non v) : v = .non := by simp only [Vw, Rep] at h; exact h.1
theorem rep_int {i : Int} : Rep K mg G H (.int i) (.int i) (fun _ => False) := by simp only [Rep]; exact ⟨trivial, fun _ z => z⟩
theorem rep_bl {i : Bool} : Rep K mg G H (.bl i) (.bl i) (fun _ => False) := by simp only [Rep]; exact ⟨trivial, fun _ z => z⟩
theorem rep_str {i : Str} : Rep K mg G H (.str i) (.str i) (fun _ => False) := by simp only [Rep]; exact ⟨trivial, fun _ z => z⟩
theorem rep_non : Rep K mg G H .non .non (fun _ => False) := by simp only [Rep]; exact ⟨trivial, fun _ z => z⟩
theorem vw_lst {o : Bool} {xs : List D} {v : V} (h : Vw K mg H (.lst o xs) v) : ∃ a vs, v = .ref a ∧ SqL K H a vs ∧ Vws K mg H xs vs := by
  cases o with
  | true =>
    simp only [Vw, Rep] at h
    obtain ⟨a, vs, fp', e, h1, h2, h3, h4⟩ := h
    exact absurd (.inl rfl) fun z => (h4 a).2 z
  | false =>
    simp only [Vw, Rep] at h
    obtain ⟨a, vs, e, h1, h2, _⟩ := h
    exact ⟨a, vs, e, h1, h2⟩
theorem vw_tup {xs : List D} {v : V} (h : Vw K mg H (.tup xs) v) : ∃ a vs, v = .ref a ∧ SqT K H a vs ∧ Vws K mg H xs vs := by
  simp only [Vw, Rep] at h
  exact h
theorem vws_ints : ∀ {xs : List D} {vs : List V} {ns : List Int}, Vws K mg H xs vs → intsOf xs = some ns → vs = ns.map V.int
  | [], vs, ns, h, e => by cases e; exact vws_nil h
  | d :: ds, vs, ns, h, e => by
    obtain ⟨v, vs', rfl, h1, h2⟩ := vws_cons' h
    cases d with
    | int i =>
      simp only [intsOf] at e
      cases q : intsOf ds with
      | none => rw [q] at e; cases e
      | some l =>
        rw [q] at e; cases e
        rw [vw_int h1, vws_ints h2 q]; rfl
    | _ => simp [intsOf] at e
theorem vws_bools : ∀ {xs : List D} {vs : List V} {ns : List Bool}, Vws K mg H xs vs → boolsOf xs = some ns → vs = ns.map V.bl
  | [], vs, ns, h, e => by cases e; exact vws_nil h
  | d :: ds, vs, ns, h, e => by
    obtain ⟨v, vs', rfl, h1, h2⟩ := vws_cons' h
    cases d with
    | bl i =>
      simp only [boolsOf] at e
      cases q : boolsOf ds with
      | none => rw [q] at e; cases e
      | some l =>
        rw [q] at e; cases e
        rw [vw_bl h1, vws_bools h2 q]; rfl
    | _ => simp [boolsOf] at e
theorem vws_len {xs : List D} {vs : List V} (h : Vws K mg H xs vs) : vs.length = xs.length := (reps_len h).symm
mutual
theorem vw_pd : ∀ {d : D} {v : V} {p : PyData}, Vw K mg H d v → toPd d = some p → Dp K H v p
  | .un, v, p, h, e => by simp [toPd] at e
  | .non, v, p, h, e => by cases e; rw [vw_non h]; exact .non
  | .bl b, v, p, h, e => by cases e; rw [vw_bl h]; exact .bl b
  | .int b, v, p, h, e => by cases e; rw [vw_int h]; exact .int b
  | .str b, v, p, h, e => by cases e; rw [vw_str h]; exact .str b
  | .tup xs, v, p, h, e => by
    obtain ⟨a, vs, rfl, h1, h2⟩ := vw_tup h
    simp only [toPd] at e
    cases q : toPds xs with
    | none => rw [q] at e; cases e
    | some l => rw [q] at e; cases e; exact .tup h1 (vws_pd h2 q)
  | .lst o xs, v, p, h, e => by
    obtain ⟨a, vs, rfl, h1, h2⟩ := vw_lst h
    simp only [toPd] at e
    cases q : toPds xs with
    | none => rw [q] at e; cases e
    | some l => rw [q] at e; cases e; exact .lst h1 (vws_pd h2 q)
  | .obj _ _ _ _, v, p, h, e => by simp [toPd] at e
theorem vws_pd : ∀ {ds : List D} {vs : List V} {ps : List PyData}, Vws K mg H ds vs → toPds ds = some ps → DpAll K H vs ps
  | [], vs, ps, h, e => by cases e; rw [vws_nil h]; exact .nil
  | d :: ds, vs, ps, h, e => by
    obtain ⟨v, vs', rfl, h1, h2⟩ := vws_cons' h
    simp only [toPds] at e
    cases q1 : toPd d with
    | none => rw [q1] at e; simp at e
    | some x =>
      cases q2 : toPds ds with
      | none => rw [q1, q2] at e; simp at e
      | some l =>
        rw [q1, q2] at e; cases e
        exact .cons (vw_pd h1 q1) (vws_pd h2 q2)
end
theorem pow2_64 : (18446744073709551616 : Nat) = 2 ^ 64 := by decide
end

/-! ### the operators -/
/-- what is known of the place where the code runs, beside X itself -/
structure Fine (X : Cx) : Prop where
  calm : X.calm = true
  nd : X.N.Nodup
  seer : X.base.NoSeer
  tree : X.prog.given.tree = none
  head : ∃ env l, X.stack = env :: l ∧ env.scope.isGenerator = false ∧ env.scope.isCoroutine = false ∧ env.builtins = builtinsNs ∧ env.globals = mainGlobals
  depth : X.A.depth + Builtin.pylongFrames < recursionLimit
  units : X.A.units + 64 < cLine

section
variable {X : Cx}
theorem Fine.room (F : Fine X) {pins : List (Addr × Obj)} {σ : L2.St} {H : Hp} {s : Shared} (I : Inv X pins σ H s) : PySem.PylongRoom (model X.prog X.w) X.A s := by
  obtain ⟨env, l, e, g, c, b, m⟩ := F.head
  refine PySem.PylongRoom.of I.nolimit F.depth ?_
  exact PySem.SeerAt.of (F.seer.keeps I.bk) F.tree (by rw [I.ok.frames, e]) g c b m
theorem op_fdivP (F : Fine X) : OpR X (binaryOp .FloorDiv) (rI (fun _ j => j ≠ 0) fun i j => .int (i.fdiv j)) := by
  intro pins s σ H x y v u Q I rx ry h
  obtain ⟨i, j, rfl, rfl, hc, q⟩ := h
  obtain ⟨t, rfl⟩ := rx
  obtain ⟨t', rfl⟩ := ry
  exact floordiv_int hc ⟨.int _, H, I.tok _, ⟨_, rfl⟩, q⟩ (.inr (F.room I))
theorem op_mulP : OpR X (binaryOp .Mult) (rI (fun i j => mulOk i j = true) fun i j => .int (i * j)) := opI fun i j _ _ _ _ _ hc q => by
  refine mul_int q ?_
  have b : ∀ x : Int, Builtin.Int.intBits x ≤ x.natAbs.log2 + 1 := fun x => by
    unfold Builtin.Int.intBits
    split <;> omega
  have h1 := b i
  have h2 := b j
  have h3 : i.natAbs.log2 + j.natAbs.log2 < 100000000 := of_decide_eq_true hc
  have e : bitsLine = 134217728 := by decide
  unfold IntMulOk
  intro z
  rw [Bool.and_eq_true] at z
  have z2 := z.2
  unfold Builtin.Int.intTooBig at z2
  have z3 := of_decide_eq_true z2
  rw [e] at z3
  omega
/-- the semantics' own operator -/
def opF : P2 → Value → Value → Sem Value
  | .add => binaryOp .Add
  | .sub => binaryOp .Sub
  | .mul => binaryOp .Mult
  | .fdiv => binaryOp .FloorDiv
  | .mod => binaryOp .Mod
  | .pow => binaryOp .Pow
  | .lt => compareOp .Lt
  | .le => compareOp .LtE
  | .gt => compareOp .Gt
  | .ge => compareOp .GtE
  | .eq => compareOp .Eq
  | .ne => compareOp .NotEq
  | .isn => compareOp .Is
  | .notn => compareOp .IsNot
def r2 (K : Fr) (mg : Str → Option Value) (p : P2) : R2 := fun x y H Q => ∃ a b d v, Vw K mg H a x ∧ Vw K mg H b y ∧ d2 p a b = some d ∧ (isSc d = true → Vw K mg H d v → Q v H) ∧ True
end

/-- a value without lists is the same whatever stays -/
theorem sc_any {K : Fr} {mg : Str → Option Value} {G G' H : Hp} {d : D} {v : V} {fp : FP} (h : isSc d = true) (r : Rep K mg G H d v fp) : Rep K mg G' H d v fp := rep_own d (isOwn_of_sc h) r
theorem decV_int {i j : Int} : decide (V.int i = V.int j) = decide (i = j) := decide_eq_decide.mpr ⟨fun h => V.int.inj h, fun h => congrArg V.int h⟩
theorem decV_str {i j : Str} : decide (V.str i = V.str j) = decide (i = j) := decide_eq_decide.mpr ⟨fun h => V.str.inj h, fun h => congrArg V.str h⟩
theorem decV_bl {i j : Bool} : decide (V.bl i = V.bl j) = decide (i = j) := decide_eq_decide.mpr ⟨fun h => V.bl.inj h, fun h => congrArg V.bl h⟩

section
variable {X : Cx}
/-- what an operator does, by data -/
def Does2 (X : Cx) (p : P2) (r : R2) : Prop := OpR X (opF p) r
theorem eq_pd (F : Fine X) : OpR X (compareOp .Eq) (rEqD X.K) := op_eqD F.units
theorem ne_pd (F : Fine X) : OpR X (compareOp .NotEq) (rNeD X.K) := op_neD F.units

theorem vw_isn {K : Fr} {mg : Str → Option Value} {H : Hp} {a : D} {v : V} (h : Vw K mg H a v) (n : a ≠ .un) : decide (v = .non) = isNon a := by
  cases a with
  | un => exact absurd rfl n
  | non => rw [vw_non h]; rfl
  | bl b => rw [vw_bl h]; rfl
  | int b => rw [vw_int h]; rfl
  | str b => rw [vw_str h]; rfl
  | tup xs => obtain ⟨a, vs, rfl, _⟩ := vw_tup h; rfl
  | lst o xs => obtain ⟨a, vs, rfl, _⟩ := vw_lst h; rfl
  | obj o C ns xs =>
    cases o with
    | true =>
      simp only [Vw, Rep] at h
      obtain ⟨a, Ca, dx, fs, fp', e, _⟩ := h
      rw [e]; rfl
    | false =>
      simp only [Vw, Rep] at h
      obtain ⟨a, Ca, dx, fs, e, _⟩ := h
      rw [e]; rfl

/-- THE OPERATORS: where d2 tells an answer, the semantics' operator gives it -/
theorem does2 (F : Fine X) (mg : Str → Option Value) (p : P2) : OpR X (opF p) (fun x y H Q => ∃ a b d, Vw X.K mg H a x ∧ Vw X.K mg H b y ∧ d2 p a b = some d ∧ ∀ v, isSc d = true → Vw X.K mg H d v → Q v H) := by
  intro pins s σ H x y v u Q I rx ry h
  obtain ⟨a, b, d, ha, hb, e, q⟩ := h
  have qi : ∀ k, d = .int k → Q (.int k) H := fun k e => q _ (by rw [e]; rfl) (by rw [e]; exact rep_int)
  have qb : ∀ k, d = .bl k → Q (.bl k) H := fun k e => q _ (by rw [e]; rfl) (by rw [e]; exact rep_bl)
  have eqd : ∀ k, dEq a b = some k → Q (.bl k) H → wpAny (model X.prog X.w) X.A (compareOp .Eq v u) (EP X pins σ Q) X.xe s := fun k e q => by
    unfold dEq at e
    split at e
    · rename_i px py e1 e2
      split at e
      · rename_i hs
        rw [Bool.and_eq_true] at hs
        cases e
        exact eq_pd F pins s σ H x y v u Q I rx ry ⟨px, py, vw_pd ha e1, vw_pd hb e2, hs.1, hs.2, q⟩
      · cases e
    · cases e
  have ned : ∀ k, dEq a b = some k → Q (.bl (!k)) H → wpAny (model X.prog X.w) X.A (compareOp .NotEq v u) (EP X pins σ Q) X.xe s := fun k e q => by
    unfold dEq at e
    split at e
    · rename_i px py e1 e2
      split at e
      · rename_i hs
        rw [Bool.and_eq_true] at hs
        cases e
        exact ne_pd F pins s σ H x y v u Q I rx ry ⟨px, py, vw_pd ha e1, vw_pd hb e2, hs.1, hs.2, q⟩
      · cases e
    · cases e
  have two : ∀ i j, a = .int i → b = .int j → x = .int i ∧ y = .int j := fun i j e1 e2 => by
    subst e1 e2
    exact ⟨vw_int ha, vw_int hb⟩
  cases p with
  | add =>
    unfold d2 at e; split at e <;> first | contradiction | skip
    all_goals (try (cases e))
    obtain ⟨rfl, rfl⟩ := two _ _ rfl rfl
    exact op_add pins s σ H _ _ v u Q I rx ry ⟨_, _, rfl, rfl, qi _ rfl⟩
  | sub =>
    unfold d2 at e; split at e <;> first | contradiction | skip
    all_goals (try (cases e))
    obtain ⟨rfl, rfl⟩ := two _ _ rfl rfl
    exact op_sub pins s σ H _ _ v u Q I rx ry ⟨_, _, rfl, rfl, qi _ rfl⟩
  | mul =>
    unfold d2 at e; split at e <;> first | contradiction | skip
    obtain ⟨rfl, rfl⟩ := two _ _ rfl rfl
    split at e
    · cases e
      exact op_mulP pins s σ H _ _ v u Q I rx ry ⟨_, _, rfl, rfl, by assumption, qi _ rfl⟩
    · cases e
  | fdiv =>
    unfold d2 at e; split at e <;> first | contradiction | skip
    obtain ⟨rfl, rfl⟩ := two _ _ rfl rfl
    split at e
    · cases e
    · cases e
      exact op_fdivP F pins s σ H _ _ v u Q I rx ry ⟨_, _, rfl, rfl, by assumption, qi _ rfl⟩
  | mod =>
    unfold d2 at e; split at e <;> first | contradiction | skip
    obtain ⟨rfl, rfl⟩ := two _ _ rfl rfl
    split at e
    · cases e
    · cases e
      exact op_modN pins s σ H _ _ v u Q I rx ry ⟨_, _, rfl, rfl, by assumption, qi _ rfl⟩
  | pow =>
    unfold d2 at e; split at e <;> first | contradiction | skip
    obtain ⟨rfl, rfl⟩ := two _ _ rfl rfl
    split at e
    · rename_i hp
      cases e
      unfold powOk at hp
      rw [Bool.and_eq_true, Bool.and_eq_true] at hp
      exact op_pow pins s σ H _ _ v u Q I rx ry ⟨_, _, rfl, rfl, ⟨of_decide_eq_true hp.1, of_decide_eq_true hp.2.1, by rw [← pow2_64]; exact of_decide_eq_true hp.2.2⟩, qi _ rfl⟩
    · cases e
  | lt =>
    unfold d2 at e; split at e <;> first | contradiction | skip
    all_goals (try (cases e))
    obtain ⟨rfl, rfl⟩ := two _ _ rfl rfl
    exact op_lt pins s σ H _ _ v u Q I rx ry ⟨_, _, rfl, rfl, qb _ rfl⟩
  | le =>
    unfold d2 at e; split at e <;> first | contradiction | skip
    all_goals (try (cases e))
    obtain ⟨rfl, rfl⟩ := two _ _ rfl rfl
    exact op_le pins s σ H _ _ v u Q I rx ry ⟨_, _, rfl, rfl, qb _ rfl⟩
  | gt =>
    unfold d2 at e; split at e <;> first | contradiction | skip
    all_goals (try (cases e))
    obtain ⟨rfl, rfl⟩ := two _ _ rfl rfl
    exact op_gt pins s σ H _ _ v u Q I rx ry ⟨_, _, rfl, rfl, qb _ rfl⟩
  | ge =>
    unfold d2 at e; split at e <;> first | contradiction | skip
    all_goals (try (cases e))
    obtain ⟨rfl, rfl⟩ := two _ _ rfl rfl
    exact op_ge pins s σ H _ _ v u Q I rx ry ⟨_, _, rfl, rfl, qb _ rfl⟩
  | eq =>
    unfold d2 at e; split at e <;> first | contradiction | skip
    · cases e
      obtain ⟨rfl, rfl⟩ := two _ _ rfl rfl
      exact op_eq pins s σ H _ _ v u Q I rx ry ⟨rfl, by rw [decV_int]; exact qb _ rfl⟩
    · cases e
      cases vw_str ha; cases vw_str hb
      exact op_eq pins s σ H _ _ v u Q I rx ry ⟨rfl, by rw [decV_str]; exact qb _ rfl⟩
    · cases e
      cases vw_bl ha; cases vw_bl hb
      exact op_eq pins s σ H _ _ v u Q I rx ry ⟨rfl, by rw [decV_bl]; exact qb _ rfl⟩
    · obtain ⟨k, z, e⟩ := Option.map_eq_some_iff.mp e
      cases e
      exact eqd k z (qb k rfl)
  | ne =>
    unfold d2 at e; split at e <;> first | contradiction | skip
    · cases e
      obtain ⟨rfl, rfl⟩ := two _ _ rfl rfl
      exact op_ne pins s σ H _ _ v u Q I rx ry ⟨rfl, by rw [decV_int]; exact qb _ rfl⟩
    · cases e
      cases vw_str ha; cases vw_str hb
      exact op_ne pins s σ H _ _ v u Q I rx ry ⟨rfl, by rw [decV_str]; exact qb _ rfl⟩
    · cases e
      cases vw_bl ha; cases vw_bl hb
      exact op_ne pins s σ H _ _ v u Q I rx ry ⟨rfl, by rw [decV_bl]; exact qb _ rfl⟩
    · obtain ⟨k, z, e⟩ := Option.map_eq_some_iff.mp e
      cases e
      exact ned k z (qb _ rfl)
  | isn =>
    unfold d2 at e; split at e <;> first | contradiction | skip
    rename_i hn _
    cases e
    cases vw_non hb
    refine op_isN pins s σ H _ _ v u Q I rx ry ⟨rfl, ?_⟩
    rw [vw_isn ha (by intro z; subst z; simp_all)]
    exact qb _ rfl
  | notn =>
    unfold d2 at e; split at e <;> first | contradiction | skip
    rename_i hn _
    cases e
    cases vw_non hb
    refine op_notN pins s σ H _ _ v u Q I rx ry ⟨rfl, ?_⟩
    rw [vw_isn ha (by intro z; subst z; simp_all)]
    exact qb _ rfl
end
end Pv

set_option maxHeartbeats 1000000
namespace Pv
open PySem PySem.Spec PyProof.Rows L2

/-! ### built-in functions -/
theorem foldl_max : ∀ (l : List Int) (a : Int), (∀ y ∈ a :: l, y ≤ l.foldl (fun m x => if m < x then x else m) a) ∧ l.foldl (fun m x => if m < x then x else m) a ∈ a :: l
  | [], a => ⟨fun y h => by simp at h; simp [h], by simp⟩
  | b :: l, a => by
    have ih := foldl_max l (if a < b then b else a)
    refine ⟨fun y hy => ?_, ?_⟩
    · have h0 := ih.1 _ (List.mem_cons_self)
      simp only [List.foldl_cons]
      rcases List.mem_cons.mp hy with rfl | hy
      · split at h0 <;> first | omega | (rename_i q; split <;> omega)
      · rcases List.mem_cons.mp hy with rfl | hy
        · split at h0 <;> first | omega | (rename_i q; split <;> omega)
        · exact ih.1 y (List.mem_cons_of_mem _ hy)
    · simp only [List.foldl_cons]
      rcases List.mem_cons.mp ih.2 with e | e
      · rw [e]; split <;> simp
      · exact List.mem_cons_of_mem _ (List.mem_cons_of_mem _ e)
theorem foldl_min : ∀ (l : List Int) (a : Int), (∀ y ∈ a :: l, l.foldl (fun m x => if x < m then x else m) a ≤ y) ∧ l.foldl (fun m x => if x < m then x else m) a ∈ a :: l
  | [], a => ⟨fun y h => by simp at h; simp [h], by simp⟩
  | b :: l, a => by
    have ih := foldl_min l (if b < a then b else a)
    refine ⟨fun y hy => ?_, ?_⟩
    · have h0 := ih.1 _ (List.mem_cons_self)
      simp only [List.foldl_cons]
      rcases List.mem_cons.mp hy with rfl | hy
      · split at h0 <;> first | omega | (rename_i q; split <;> omega)
      · rcases List.mem_cons.mp hy with rfl | hy
        · split at h0 <;> first | omega | (rename_i q; split <;> omega)
        · exact ih.1 y (List.mem_cons_of_mem _ hy)
    · simp only [List.foldl_cons]
      rcases List.mem_cons.mp ih.2 with e | e
      · rw [e]; split <;> simp
      · exact List.mem_cons_of_mem _ (List.mem_cons_of_mem _ e)
theorem maxL_is {l : List Int} {m : Int} (h : m ∈ l) (h2 : ∀ y, y ∈ l → y ≤ m) : m = maxL l := by
  cases l with
  | nil => cases h
  | cons a l =>
    have q := foldl_max l a
    have h3 := h2 _ q.2
    have h4 := q.1 _ h
    show m = l.foldl (fun m x => if m < x then x else m) a
    omega
theorem minL_is {l : List Int} {m : Int} (h : m ∈ l) (h2 : ∀ y, y ∈ l → m ≤ y) : m = minL l := by
  cases l with
  | nil => cases h
  | cons a l =>
    have q := foldl_min l a
    have h3 := h2 _ q.2
    have h4 := q.1 _ h
    show m = l.foldl (fun m x => if x < m then x else m) a
    omega
/-- the function object, and its name -/
def fnV : PF → Value
  | .len => .builtin "len"
  | .abs => .builtin "abs"
  | .min2 => .builtin "min"
  | .max2 => .builtin "max"
  | .minL => .builtin "min"
  | .maxL => .builtin "max"
  | .sum => .builtin "sum"
  | .any => .builtin "any"
  | .all => .builtin "all"
  | .int => .type "int"
  | .gcd => .builtin "math.gcd"
def fnN : PF → Str
  | .len => "len"
  | .abs => "abs"
  | .min2 => "min"
  | .max2 => "max"
  | .minL => "min"
  | .maxL => "max"
  | .sum => "sum"
  | .any => "any"
  | .all => "all"
  | .int => "int"
  | .gcd => "gcd"
section
variable {X : Cx}
theorem vws1 {K : Fr} {mg : Str → Option Value} {H : Hp} {d : D} {vs : List V} (h : Vws K mg H [d] vs) : ∃ v, vs = [v] ∧ Vw K mg H d v := by
  obtain ⟨v, vs', rfl, h1, h2⟩ := vws_cons' h
  cases vws_nil h2
  exact ⟨v, rfl, h1⟩
theorem vws2 {K : Fr} {mg : Str → Option Value} {H : Hp} {d e : D} {vs : List V} (h : Vws K mg H [d, e] vs) : ∃ v w, vs = [v, w] ∧ Vw K mg H d v ∧ Vw K mg H e w := by
  obtain ⟨v, vs', rfl, h1, h2⟩ := vws_cons' h
  obtain ⟨w, rfl, h3⟩ := vws1 h2
  exact ⟨v, w, rfl, h1, h3⟩
theorem doesF (F : Fine X) (mg : Str → Option Value) (p : PF) : CallR X (fnV p) (fun vs H Q => ∃ ds d, Vws X.K mg H ds vs ∧ dF p ds = some d ∧ ∀ v, isSc d = true → Vw X.K mg H d v → Q v H) := by
  intro pins s σ H vs us Q I r h
  obtain ⟨ds, d, hv, e, q⟩ := h
  have qi : ∀ k, d = .int k → Q (.int k) H := fun k e => q _ (by rw [e]; rfl) (by rw [e]; exact rep_int)
  have qb : ∀ k, d = .bl k → Q (.bl k) H := fun k e => q _ (by rw [e]; rfl) (by rw [e]; exact rep_bl)
  cases p with
  | len =>
    unfold dF at e; split at e <;> first | contradiction | skip
    · cases e
      obtain ⟨v, rfl, h1⟩ := vws1 hv
      obtain ⟨a, vs, rfl, h2, h3⟩ := vw_lst h1
      refine call_len_seq pins s σ H _ us Q I r ⟨a, vs, rfl, .inl h2, ?_⟩
      rw [vws_len h3]; exact qi _ rfl
    · cases e
      obtain ⟨v, rfl, h1⟩ := vws1 hv
      obtain ⟨a, vs, rfl, h2, h3⟩ := vw_tup h1
      refine call_len_seq pins s σ H _ us Q I r ⟨a, vs, rfl, .inr h2, ?_⟩
      rw [vws_len h3]; exact qi _ rfl
  | abs =>
    unfold dF at e; split at e <;> first | contradiction | skip
    cases e
    obtain ⟨v, rfl, h1⟩ := vws1 hv
    cases vw_int h1
    exact call_abs pins s σ H _ us Q I r ⟨_, rfl, qi _ rfl⟩
  | min2 =>
    unfold dF at e; split at e <;> first | contradiction | skip
    cases e
    obtain ⟨v, w, rfl, h1, h2⟩ := vws2 hv
    cases vw_int h1; cases vw_int h2
    exact call_min2 F.calm pins s σ H _ us Q I r ⟨_, _, rfl, qi _ rfl⟩
  | max2 =>
    unfold dF at e; split at e <;> first | contradiction | skip
    cases e
    obtain ⟨v, w, rfl, h1, h2⟩ := vws2 hv
    cases vw_int h1; cases vw_int h2
    exact call_max2 F.calm pins s σ H _ us Q I r ⟨_, _, rfl, qi _ rfl⟩
  | minL =>
    unfold dF at e; split at e <;> first | contradiction | skip
    obtain ⟨ns, en, e⟩ := Option.bind_eq_some_iff.mp e
    obtain ⟨v, rfl, h1⟩ := vws1 hv
    obtain ⟨a, vs, rfl, h2, h3⟩ := vw_lst h1
    rw [vws_ints h3 en] at h2
    split at e
    · cases e
    · rename_i hn
      cases e
      refine cr_min F.calm pins s σ H _ us Q I r ⟨a, ns, rfl, h2, List.length_pos_iff.mpr hn, fun m m1 m2 => ?_⟩
      rw [minL_is m1 m2]; exact qi _ rfl
  | maxL =>
    unfold dF at e; split at e <;> first | contradiction | skip
    obtain ⟨ns, en, e⟩ := Option.bind_eq_some_iff.mp e
    obtain ⟨v, rfl, h1⟩ := vws1 hv
    obtain ⟨a, vs, rfl, h2, h3⟩ := vw_lst h1
    rw [vws_ints h3 en] at h2
    split at e
    · cases e
    · rename_i hn
      cases e
      refine cr_max F.calm pins s σ H _ us Q I r ⟨a, ns, rfl, h2, List.length_pos_iff.mpr hn, fun m m1 m2 => ?_⟩
      rw [maxL_is m1 m2]; exact qi _ rfl
  | sum =>
    unfold dF at e; split at e <;> first | contradiction | skip
    obtain ⟨ns, en, e⟩ := Option.map_eq_some_iff.mp e
    cases e
    obtain ⟨v, rfl, h1⟩ := vws1 hv
    obtain ⟨a, vs, rfl, h2, h3⟩ := vw_lst h1
    rw [vws_ints h3 en] at h2
    exact cr_sum F.calm pins s σ H _ us Q I r ⟨a, ns, rfl, h2, qi _ rfl⟩
  | any =>
    unfold dF at e; split at e <;> first | contradiction | skip
    obtain ⟨ns, en, e⟩ := Option.map_eq_some_iff.mp e
    cases e
    obtain ⟨v, rfl, h1⟩ := vws1 hv
    obtain ⟨a, vs, rfl, h2, h3⟩ := vw_lst h1
    rw [vws_bools h3 en] at h2
    exact cr_any F.calm pins s σ H _ us Q I r ⟨a, ns, rfl, h2, qb _ rfl⟩
  | all =>
    unfold dF at e; split at e <;> first | contradiction | skip
    obtain ⟨ns, en, e⟩ := Option.map_eq_some_iff.mp e
    cases e
    obtain ⟨v, rfl, h1⟩ := vws1 hv
    obtain ⟨a, vs, rfl, h2, h3⟩ := vw_lst h1
    rw [vws_bools h3 en] at h2
    exact cr_all F.calm pins s σ H _ us Q I r ⟨a, ns, rfl, h2, qb _ rfl⟩
  | int =>
    unfold dF at e; split at e <;> first | contradiction | skip
    · cases e
      obtain ⟨v, rfl, h1⟩ := vws1 hv
      cases vw_int h1
      exact call_int1 pins s σ H _ us Q I r (.inl ⟨_, rfl, qi _ rfl⟩)
    · cases e
      obtain ⟨v, rfl, h1⟩ := vws1 hv
      cases vw_bl h1
      exact call_int1 pins s σ H _ us Q I r (.inr ⟨_, rfl, qi _ rfl⟩)
  | gcd =>
    unfold dF at e; split at e <;> first | contradiction | skip
    cases e
    obtain ⟨v, w, rfl, h1, h2⟩ := vws2 hv
    cases vw_int h1; cases vw_int h2
    exact cr_gcd pins s σ H _ us Q I r ⟨_, _, rfl, qi _ rfl⟩
/-- a value's truth -/
theorem doesT {mg : Str → Option Value} {d : D} {v : V} {H : Hp} {b : Bool} (h : Vw X.K mg H d v) (e : dT d = some b) : TruV X.K v H b := by
  cases d with
  | un => cases e
  | non => cases e; rw [vw_non h]; exact rfl
  | bl b => cases e; rw [vw_bl h]; exact rfl
  | int i => cases e; rw [vw_int h]; exact rfl
  | str s => cases e
  | tup xs =>
    cases e
    obtain ⟨a, vs, rfl, h1, h2⟩ := vw_tup h
    refine .inr (.inl ⟨vs, h1, ?_⟩)
    cases xs with
    | nil => cases vws_nil h2; rfl
    | cons x xs => obtain ⟨v, vs', rfl, _⟩ := vws_cons' h2; rfl
  | lst o xs =>
    cases e
    obtain ⟨a, vs, rfl, h1, h2⟩ := vw_lst h
    refine .inl ⟨vs, h1, ?_⟩
    cases xs with
    | nil => cases vws_nil h2; rfl
    | cons x xs => obtain ⟨v, vs', rfl, _⟩ := vws_cons' h2; rfl
  | obj _ _ _ _ => cases e
/-- a value's type -/
theorem doesTy {mg : Str → Option Value} {d : D} {v : V} {H : Hp} {T : String} (h : Vw X.K mg H d v) (e : tyName d = some T) : TyX X.K H v (.type T) := by
  cases d with
  | un => cases e
  | non => cases e; rw [vw_non h]; exact .base .non
  | bl b => cases e; rw [vw_bl h]; exact .base (.bl _)
  | int i => cases e; rw [vw_int h]; exact .base (.int _)
  | str s => cases e; rw [vw_str h]; exact .base (.str _)
  | tup xs =>
    cases e
    obtain ⟨a, vs, rfl, h1, h2⟩ := vw_tup h
    rcases h1 with (h1 | ⟨o, h1⟩) | ⟨o, its, n, h1, hc, _⟩
    · exact .base (.tup h1)
    · exact .fTuple h1
    · exact .kTuple h1 hc
  | lst o xs =>
    cases e
    obtain ⟨a, vs, rfl, h1, h2⟩ := vw_lst h
    rcases h1 with (h1 | ⟨o, h1⟩) | ⟨o, its, n, h1, hc, _⟩
    · exact .base (.lst h1)
    · exact .base (.frz h1)
    · exact .kList h1 hc
  | obj _ _ _ _ => cases e
end

/-! ### the state, for lists and tuples -/
section
variable {K : Fr} {mg : Str → Option Value} {G G' H H' : Hp} {fp f1 f2 : FP} {ts : List D} {tv : List V} {rs : List D} {sg : L2.St}
theorem reps_app : ∀ {as bs : List D} {va vb : List V} {f1 f2 : FP}, Reps K mg G H as va f1 → Reps K mg G H bs vb f2 → (∀ a, f1 a → ¬ f2 a) → Reps K mg G H (as ++ bs) (va ++ vb) (fun a => f1 a ∨ f2 a)
  | [], bs, [], vb, f1, f2, h1, h2, _ => by
    simp only [Reps] at h1
    exact reps_iff h2 fun a => by simp [h1 a]
  | a :: as, bs, v :: va, vb, f1, f2, h1, h2, dj => by
    simp only [Reps] at h1
    obtain ⟨g1, g2, k1, k2, k3, k4⟩ := h1
    show Reps K mg G H (a :: (as ++ bs)) (v :: (va ++ vb)) _
    simp only [Reps]
    refine ⟨g1, _, k1, reps_app k2 h2 fun x hx => dj x ((k4 x).2 (.inr hx)), fun x hx hy => ?_, fun x => ?_⟩
    · rcases hy with hy | hy
      · exact k3 x hx hy
      · exact dj x ((k4 x).2 (.inl hx)) hy
    · rw [k4 x, or_assoc]
  | [], _, _ :: _, _, _, _, h1, _, _ => by simp only [Reps] at h1
  | _ :: _, _, [], _, _, _, h1, _, _ => by simp only [Reps] at h1
theorem reps_cut : ∀ {as bs : List D} {va vb : List V} {fp : FP}, as.length = va.length → Reps K mg G H (as ++ bs) (va ++ vb) fp → ∃ f1 f2 : FP, Reps K mg G H as va f1 ∧ Reps K mg G H bs vb f2 ∧ (∀ a, f1 a → ¬ f2 a) ∧ ∀ a, fp a ↔ (f1 a ∨ f2 a)
  | [], bs, [], vb, fp, _, h => ⟨fun _ => False, fp, by simp [Reps], h, fun _ z => z.elim, fun a => by simp⟩
  | a :: as, bs, v :: va, vb, fp, e, h => by
    have h' : Reps K mg G H (a :: (as ++ bs)) (v :: (va ++ vb)) fp := h
    simp only [Reps] at h'
    obtain ⟨g1, g2, k1, k2, k3, k4⟩ := h'
    obtain ⟨f1, f2, q1, q2, q3, q4⟩ := reps_cut (by simpa using e) k2
    refine ⟨fun x => g1 x ∨ f1 x, f2, ?_, q2, fun x hx hy => ?_, fun x => ?_⟩
    · simp only [Reps]
      exact ⟨g1, f1, k1, q1, fun x hx hy => k3 x hx ((q4 x).2 (.inl hy)), fun _ => Iff.rfl⟩
    · rcases hx with hx | hx
      · exact k3 x hx ((q4 x).2 (.inr hy))
      · exact q3 x hx hy
    · rw [k4 x, q4 x, or_assoc]
  | [], _, _ :: _, _, _, e, _ => by simp at e
  | _ :: _, _, [], _, _, e, _ => by simp at e
theorem reps_rev : ∀ {ds : List D} {vs : List V} {fp : FP}, Reps K mg G H ds vs fp → Reps K mg G H ds.reverse vs.reverse fp
  | [], [], fp, h => h
  | d :: ds, v :: vs, fp, h => by
    simp only [Reps] at h
    obtain ⟨g1, g2, k1, k2, k3, k4⟩ := h
    rw [List.reverse_cons, List.reverse_cons]
    refine reps_iff (reps_app (reps_rev k2) (f2 := g1) ?_ fun a ha hb => k3 a hb ha) fun a => ?_
    · simp only [Reps]
      exact ⟨g1, fun _ => False, k1, fun _ z => z, fun _ _ z => z, fun a => by simp⟩
    · rw [k4 a, or_comm]
  | [], _ :: _, _, h => by simp only [Reps] at h
  | _ :: _, [], _, h => by simp only [Reps] at h
/-- several on top, apart -/
theorem R.tops {as : List D} {va : List V} (r : R K mg G H (as ++ ts) (va ++ tv) rs sg fp) (el : as.length = va.length) : ∃ f1 f2 : FP, Reps K mg G H as va f1 ∧ R K mg G H ts tv rs sg f2 ∧ (∀ a, f1 a → ¬ f2 a) ∧ ∀ a, fp a ↔ (f1 a ∨ f2 a) := by
  obtain ⟨⟨ft, fs, h1, h2, h3, h4⟩, sub⟩ := r
  obtain ⟨g1, g2, k1, k2, k3, k4⟩ := reps_cut el h1
  refine ⟨g1, fun a => g2 a ∨ fs a, k1, ⟨⟨g2, fs, k2, h2, fun a ha => h3 a ((k4 a).2 (.inr ha)), fun _ => Iff.rfl⟩, fun a o e => ⟨(sub a o e).1, fun z => (sub a o e).2 ?_⟩⟩, fun a ha hb => ?_, fun a => ?_⟩
  · rcases z with z | z
    · exact (h4 a).2 (.inl ((k4 a).2 (.inr z)))
    · exact (h4 a).2 (.inr z)
  · rcases hb with hb | hb
    · exact k3 a ha hb
    · exact h3 a ((k4 a).2 (.inl ha)) hb
  · rw [h4 a, k4 a, or_assoc]
theorem R.dropN {as : List D} {va : List V} (r : R K mg G H (as ++ ts) (va ++ tv) rs sg fp) (el : as.length = va.length) : ∃ fp' : FP, R K mg G H ts tv rs sg fp' ∧ Step K G H fp G H fp' := by
  obtain ⟨f1, f2, _, r2, _, e⟩ := r.tops el
  exact ⟨f2, r2, .less fun a z => (e a).2 (.inr z)⟩
theorem sqT_upd {p : Addr} {o : HO} (n : H p = none) {a : Addr} {vs : List V} (h : SqT K H a vs) : SqT K (upd H p o) a vs := by
  rcases h with (h | ⟨u, h⟩) | h
  · exact .inl (.inl (by rw [upd_ne (ne_of_none h n)]; exact h))
  · exact .inl (.inr ⟨u, by rw [upd_ne (ne_of_none h n)]; exact h⟩)
  · exact .inr h
/-- a new object -/
theorem Step.alloc {p : Addr} {o : HO} (n : H p = none) {fp' : FP} (h : ∀ a, fp' a → fp a ∨ a = p) : Step K G H fp G (upd H p o) fp' :=
  ⟨fun a u e _ => by rw [upd_ne (ne_of_none e n)]; exact e, fun a vs h => sqT_upd n h, fun a z => (h a z).elim .inr fun e => .inl (by rw [e]; exact n), fun _ _ h => h, fun _ _ h => .inl h⟩
/-- an own object changed -/
theorem Step.set {p : Addr} {o : HO} {xs : List V} (hp : H p = some (.lst xs)) (hf : fp p) {fp' : FP} (h : ∀ a, fp' a → fp a) : Step K G H fp G (upd H p o) fp' := by
  refine ⟨fun a u e n => ?_, fun a vs h => ?_, fun a z => .inr (h a z), fun _ _ h => h, fun _ _ h => .inl h⟩
  · have : a ≠ p := fun z => n (by rw [z]; exact hf)
    rw [upd_ne this]; exact e
  · rcases h with (h | ⟨u, h⟩) | h
    · exact .inl (.inl (by rw [upd_ne (ne_of h hp (by intro z; cases z))]; exact h))
    · exact .inl (.inr ⟨u, by rw [upd_ne (ne_of h hp (by intro z; cases z))]; exact h⟩)
    · exact .inr h
theorem R.mono (r : R K mg G H ts tv rs sg fp) (ht : ∀ a vs, SqT K H a vs → SqT K H' a vs) (hh : ∀ a o, fp a → H a = some o → H' a = some o) (hg : ∀ a o, G a = some o → H' a = some o) : R K mg G H' ts tv rs sg fp := by
  obtain ⟨⟨ft, fs, h1, h2, h3, h4⟩, sub⟩ := r
  exact ⟨⟨ft, fs, reps_mono (fun _ _ h => h) ht ts (fun a o ha => hh a o ((h4 a).2 (.inl ha))) h1, repsO_mono (fun _ _ h => h) ht (fun a o ha => hh a o ((h4 a).2 (.inr ha))) h2, h3, h4⟩, fun a o e => ⟨hg a o e, (sub a o e).2⟩⟩
/-- a new list of what lies on top -/
theorem R.newL {as : List D} {va : List V} {p : Addr} (r : R K mg G H (as.reverse ++ ts) (va.reverse ++ tv) rs sg fp) (el : as.length = va.length) (n : H p = none) :
    ∃ fp' : FP, R K mg G (upd H p (.lst va)) (.lst true as :: ts) (.ref p :: tv) rs sg fp' ∧ Step K G H fp G (upd H p (.lst va)) fp' := by
  obtain ⟨f1, f2, h1, r2, dj, e⟩ := r.tops (by simp [el])
  have h1 := reps_rev h1
  rw [List.reverse_reverse, List.reverse_reverse] at h1
  have np : ∀ a, fp a → a ≠ p := fun a ha z => by
    subst z
    rcases r.there a ha with ⟨_, q⟩ | ⟨_, _, _, q⟩ <;> (rw [n] at q; cases q)
  have tu : ∀ a vs, SqT K H a vs → SqT K (upd H p (.lst va)) a vs := fun a vs h => sqT_upd n h
  have kp : ∀ a o, H a = some o → upd H p (.lst va) a = some o := fun a o h => by rw [upd_ne (ne_of_none h n)]; exact h
  have r3 := r2.mono (H' := upd H p (.lst va)) tu (fun a o _ h => kp a o h) (fun a o h => kp a o (r2.sub a o h).1)
  have h2 : Rep K mg G (upd H p (.lst va)) (.lst true as) (.ref p) (fun a => a = p ∨ f1 a) := by
    simp only [Rep]
    exact ⟨p, va, f1, rfl, upd_same, reps_mono (fun _ _ h => h) tu as (fun a o _ h => kp a o h) h1, fun z => np p ((e p).2 (.inl z)) rfl, fun _ => Iff.rfl⟩
  refine ⟨_, r3.push h2 (fun a ha hb => ?_) (fun a o hg ha => ?_), .alloc n fun a z => ?_⟩
  · rcases ha with ha | ha
    · exact np a ((e a).2 (.inr hb)) ha
    · exact dj a ha hb
  · rcases ha with ha | ha
    · have q := (r.sub a o hg).1
      rw [ha, n] at q; cases q
    · exact (r.sub a o hg).2 ((e a).2 (.inl ha))
  · rcases z with (z | z) | z
    · exact .inr z
    · exact .inl ((e a).2 (.inl z))
    · exact .inl ((e a).2 (.inr z))
/-- a new tuple of what lies on top -/
theorem R.newT {as : List D} {va : List V} {p : Addr} (r : R K mg G H (as.reverse ++ ts) (va.reverse ++ tv) rs sg fp) (el : as.length = va.length) (n : H p = none) :
    ∃ fp' : FP, R K mg G (upd H p (.tup va)) (.tup as :: ts) (.ref p :: tv) rs sg fp' ∧ Step K G H fp G (upd H p (.tup va)) fp' := by
  obtain ⟨f1, f2, h1, r2, dj, e⟩ := r.tops (by simp [el])
  have h1 := reps_rev h1
  rw [List.reverse_reverse, List.reverse_reverse] at h1
  have tu : ∀ a vs, SqT K H a vs → SqT K (upd H p (.tup va)) a vs := fun a vs h => sqT_upd n h
  have kp : ∀ a o, H a = some o → upd H p (.tup va) a = some o := fun a o h => by rw [upd_ne (ne_of_none h n)]; exact h
  have r3 := r2.mono (H' := upd H p (.tup va)) tu (fun a o _ h => kp a o h) (fun a o h => kp a o (r2.sub a o h).1)
  have h2 : Rep K mg G (upd H p (.tup va)) (.tup as) (.ref p) f1 := by
    simp only [Rep]
    exact ⟨p, va, rfl, .inl (.inl upd_same), reps_mono (fun _ _ h => h) tu as (fun a o _ h => kp a o h) h1⟩
  refine ⟨_, r3.push h2 dj (fun a o hg ha => (r.sub a o hg).2 ((e a).2 (.inl ha))), .alloc n fun a z => ?_⟩
  rcases z with z | z
  · exact .inl ((e a).2 (.inl z))
  · exact .inl ((e a).2 (.inr z))
/-- an own list on top: its items changed for others that lie on top of it -/
theorem R.setL {d : D} {v : V} {xs : List D} {vx : V} {ys : List D} (g : List V → List V) (r : R K mg G H (d :: .lst true xs :: ts) (v :: vx :: tv) rs sg fp)
    (hy : ∀ {vs : List V} {f1 f2 : FP}, Rep K mg G H d v f1 → Reps K mg G H xs vs f2 → (∀ a, f1 a → ¬ f2 a) → ∃ f3, Reps K mg G H ys (g vs) f3 ∧ (∀ a, f3 a → f1 a ∨ f2 a)) :
    ∃ (p : Addr) (vs : List V), vx = .ref p ∧ H p = some (.lst vs) ∧ vs.length = xs.length ∧ ∃ fp' : FP,
      R K mg G (upd H p (.lst (g vs))) (.lst true ys :: ts) (.ref p :: tv) rs sg fp' ∧ Step K G H fp G (upd H p (.lst (g vs))) fp' := by
  obtain ⟨f1, f2, h1, r2, dj, e⟩ := r.top
  obtain ⟨g1, g2, k1, r3, dj2, e2⟩ := r2.top
  simp only [Rep] at k1
  obtain ⟨p, vs, g3, rfl, hp, kx, np, e3⟩ := k1
  obtain ⟨f3, q1, q2⟩ := hy h1 kx (fun a ha hb => dj a ha ((e2 a).2 (.inl ((e3 a).2 (.inr hb)))))
  obtain ⟨ws, hws⟩ : ∃ ws, ws = g vs := ⟨_, rfl⟩
  rw [← hws] at q1
  refine ⟨p, vs, rfl, hp, (reps_len kx).symm, ?_⟩
  rw [← hws]
  have pf : fp p := (e p).2 (.inr ((e2 p).2 (.inl ((e3 p).2 (.inl rfl)))))
  have n3 : ¬ f3 p := fun z => by
    rcases q2 p z with z | z
    · exact dj p z ((e2 p).2 (.inl ((e3 p).2 (.inl rfl))))
    · exact np z
  have tu : ∀ a us, SqT K H a us → SqT K (upd H p (.lst ws)) a us := (Step.set (K := K) (G := G) (fp := fp) (o := .lst ws) hp pf (fp' := fp) fun _ z => z).tups
  have kp : ∀ a o, a ≠ p → H a = some o → upd H p (.lst ws) a = some o := fun a o h h2 => by rw [upd_ne h]; exact h2
  have r4 := r3.mono (H' := upd H p (.lst ws)) tu (fun a o ha h => kp a o (fun z => dj2 p ((e3 p).2 (.inl rfl)) (z ▸ ha)) h) (fun a o h => kp a o (fun z => (r.sub a o h).2 (z ▸ pf)) (r.sub a o h).1)
  have h2 : Rep K mg G (upd H p (.lst ws)) (.lst true ys) (.ref p) (fun a => a = p ∨ f3 a) := by
    simp only [Rep]
    exact ⟨p, ws, f3, rfl, upd_same, reps_mono (fun _ _ h => h) tu ys (fun a o ha h => kp a o (fun z => n3 (z ▸ ha)) h) q1, n3, fun _ => Iff.rfl⟩
  have le : ∀ a, (a = p ∨ f3 a) → fp a := fun a z => by
    rcases z with z | z
    · rw [z]; exact pf
    · rcases q2 a z with z | z
      · exact (e a).2 (.inl z)
      · exact (e a).2 (.inr ((e2 a).2 (.inl ((e3 a).2 (.inr z)))))
  refine ⟨_, r4.push h2 (fun a ha hb => ?_) (fun a o hg ha => (r.sub a o hg).2 (le a ha)), .set hp pf fun a z => ?_⟩
  · rcases ha with ha | ha
    · exact dj2 a ((e3 a).2 (.inl ha)) hb
    · rcases q2 a ha with z | z
      · exact dj a z ((e2 a).2 (.inr hb))
      · exact dj2 a ((e3 a).2 (.inr z)) hb
  · rcases z with z | z
    · exact le a z
    · exact (e a).2 (.inr ((e2 a).2 (.inr z)))
/-- x.append(d) -/
theorem R.appL {d : D} {v : V} {xs : List D} {vx : V} (r : R K mg G H (d :: .lst true xs :: ts) (v :: vx :: tv) rs sg fp) :
    ∃ (p : Addr) (vs : List V), vx = .ref p ∧ H p = some (.lst vs) ∧ vs.length = xs.length ∧ ∃ fp' : FP,
      R K mg G (upd H p (.lst (vs ++ [v]))) (.lst true (xs ++ [d]) :: ts) (.ref p :: tv) rs sg fp' ∧ Step K G H fp G (upd H p (.lst (vs ++ [v]))) fp' :=
  r.setL (fun vs => vs ++ [v]) fun {vs f1 f2} h1 h2 dj => by
    refine ⟨_, reps_app h2 (f2 := f1) ?_ (fun a ha hb => dj a hb ha), fun a z => z.symm⟩
    simp only [Reps]
    exact ⟨f1, fun _ => False, h1, fun _ z => z, fun _ _ z => z, fun a => by simp⟩
theorem reps_set : ∀ {xs : List D} {vs : List V} {f1 f2 : FP} {d : D} {v : V} (j : Nat), Rep K mg G H d v f1 → Reps K mg G H xs vs f2 → (∀ a, f1 a → ¬ f2 a) → ∃ f3, Reps K mg G H (xs.set j d) (vs.set j v) f3 ∧ (∀ a, f3 a → f1 a ∨ f2 a)
  | [], [], f1, f2, d, v, j, h1, h2, _ => ⟨f2, by simpa using h2, fun a z => .inr z⟩
  | x :: xs, w :: vs, f1, f2, d, v, 0, h1, h2, dj => by
    simp only [Reps] at h2
    obtain ⟨g1, g2, k1, k2, k3, k4⟩ := h2
    refine ⟨fun a => f1 a ∨ g2 a, ?_, fun a z => z.imp id fun z => (k4 a).2 (.inr z)⟩
    simp only [List.set_cons_zero, Reps]
    exact ⟨f1, g2, h1, k2, fun a ha hb => dj a ha ((k4 a).2 (.inr hb)), fun _ => Iff.rfl⟩
  | x :: xs, w :: vs, f1, f2, d, v, j + 1, h1, h2, dj => by
    simp only [Reps] at h2
    obtain ⟨g1, g2, k1, k2, k3, k4⟩ := h2
    obtain ⟨f3, q1, q2⟩ := reps_set j h1 k2 fun a ha hb => dj a ha ((k4 a).2 (.inr hb))
    refine ⟨fun a => g1 a ∨ f3 a, ?_, fun a z => ?_⟩
    · simp only [List.set_cons_succ, Reps]
      refine ⟨g1, f3, k1, q1, fun a ha hb => ?_, fun _ => Iff.rfl⟩
      rcases q2 a hb with z | z
      · exact dj a z ((k4 a).2 (.inl ha))
      · exact k3 a ha z
    · rcases z with z | z
      · exact .inr ((k4 a).2 (.inl z))
      · exact (q2 a z).imp id fun z => (k4 a).2 (.inr z)
  | [], _ :: _, _, _, _, _, _, _, h, _ => by simp only [Reps] at h
  | _ :: _, [], _, _, _, _, _, _, h, _ => by simp only [Reps] at h
/-- x[j] = d -/
theorem R.putL {d : D} {v : V} {xs : List D} {vx : V} (j : Nat) (r : R K mg G H (d :: .lst true xs :: ts) (v :: vx :: tv) rs sg fp) :
    ∃ (p : Addr) (vs : List V), vx = .ref p ∧ H p = some (.lst vs) ∧ vs.length = xs.length ∧ ∃ fp' : FP,
      R K mg G (upd H p (.lst (vs.set j v))) (.lst true (xs.set j d) :: ts) (.ref p :: tv) rs sg fp' ∧ Step K G H fp G (upd H p (.lst (vs.set j v))) fp' :=
  r.setL (fun vs => vs.set j v) fun h1 h2 dj => reps_set j h1 h2 dj
end
end Pv

set_option maxHeartbeats 1000000
namespace Pv
open PySem PySem.Spec PyProof.Rows L2

/-! ### arguments, answers -/
inductive Arg where
  | tmp (d : D)
  | loc (s : Nat)
inductive Res (A : Type) where
  | ok (a : A) (rs : List D)
  | exc (x : Exc) (rs : List D)
def Res.bd {A B : Type} (r : Option (Res A)) (f : A → List D → Option (Res B)) : Option (Res B) :=
  match r with
  | some (.ok a rs) => f a rs
  | some (.exc x rs) => some (.exc x rs)
  | none => none
theorem Res.bd_ok {A B : Type} {a : A} {rs : List D} {f : A → List D → Option (Res B)} : Res.bd (some (.ok a rs)) f = f a rs := rfl
theorem Res.bd_exc {A B : Type} {a : Exc} {rs : List D} {f : A → List D → Option (Res B)} : Res.bd (some (.exc a rs)) f = some (.exc a rs) := rfl
def isUn : D → Bool
  | .un => true
  | _ => false
/-- the value of an operand, to be looked at -/
def res (rs : List D) : Arg → D
  | .tmp d => fz d
  | .loc s => fz (rs.getD s .un)
def tmps : List Arg → List D
  | [] => []
  | .tmp d :: as => d :: tmps as
  | .loc _ :: as => tmps as

/-- the code runs, and what is asked of an exception -/
structure XRep (K : Fr) (mg : Str → Option Value) (x : Exc) (cls : Value) (da : Option Addr) (H : Hp) : Prop where
  ex : ∃ (Ca dd : Addr) (fs : List (Str × V)), cls = .ref Ca ∧ mg x.C = some (.ref Ca) ∧ da = some dd ∧ H dd = some (.xd fs) ∧ fs.map (·.1) = x.ns ∧ Vws K mg H x.xs (fs.map (·.2)) ∧ isScs x.xs = true
def XP (X : Cx) (W : WX) (x : Exc) (rs : List D) (sg : L2.St) (G H : Hp) (fp : FP) : Prop :=
  ∀ cls da G' H' fp', Step X.K G H fp G' H' fp' → R X.K X.mg G' H' [] [] rs sg fp' → XRep X.K X.mg x cls da H' → W cls da sg H'
theorem XP.step {X : Cx} {W : WX} {x : Exc} {rs : List D} {sg : L2.St} {G H G1 H1 : Hp} {fp f1 : FP} (h : XP X W x rs sg G H fp) (st : Step X.K G H fp G1 H1 f1) : XP X W x rs sg G1 H1 f1 :=
  fun cls da G' H' fp' s2 r q => h cls da G' H' fp' (st.trans s2) r q

/-- a reading does what the evaluation says -/
def Sat (X : Cx) (W : WX) (t : TE) (ev : List D → Option (Res D)) : Prop :=
  ∀ rs r, ev rs = some r → ∀ (sg : L2.St) (G H : Hp) (ts : List D) (tv : List V) (fp : FP) (Q : VK), R X.K X.mg G H ts tv rs sg fp →
    (∀ d rs', r = .ok d rs' → ∀ v G' H' fp', Step X.K G H fp G' H' fp' → R X.K X.mg G' H' (d :: ts) (v :: tv) rs' sg fp' → Q v H') →
    (∀ x rs', r = .exc x rs' → XP X W x rs' sg G H fp) → t sg H Q
/-- a test -/
def SatT (X : Cx) (W : WX) (t : TT) (ev : List D → Option (Res Bool)) : Prop :=
  ∀ rs r, ev rs = some r → ∀ (sg : L2.St) (G H : Hp) (ts : List D) (tv : List V) (fp : FP) (Q : Bool → Hp → Prop), R X.K X.mg G H ts tv rs sg fp →
    (∀ b rs', r = .ok b rs' → ∀ G' H' fp', Step X.K G H fp G' H' fp' → R X.K X.mg G' H' ts tv rs' sg fp' → Q b H') →
    (∀ x rs', r = .exc x rs' → XP X W x rs' sg G H fp) → t sg H Q
/-- readings one after another -/
def runs : List TE → TA
  | [] => fun _ H Q => Q [] H
  | t :: ts => fun sg H Q => t sg H fun x H1 => runs ts sg H1 fun xs H2 => Q (x :: xs) H2
inductive PEs (X : Cx) : List Expr → List TE → Prop
  | nil : PEs X [] []
  | cons {e : Expr} {es : List Expr} {t : TE} {ts : List TE} : PE X e t → PEs X es ts → PEs X (e :: es) (t :: ts)
inductive AR (sg : L2.St) : List Arg → List V → List V → Prop
  | nil : AR sg [] [] []
  | tmp {d : D} {v : V} {as : List Arg} {vs va : List V} : AR sg as vs va → AR sg (.tmp d :: as) (v :: vs) (v :: va)
  | loc {s : Nat} {v : V} {as : List Arg} {vs va : List V} : sg[s]? = some (some v) → AR sg as vs va → AR sg (.loc s :: as) (v :: vs) va
theorem AR.len {sg : L2.St} : ∀ {as : List Arg} {vs va : List V}, AR sg as vs va → (tmps as).length = va.length ∧ as.length = vs.length
  | _, _, _, .nil => ⟨rfl, rfl⟩
  | _, _, _, .tmp h => by have := h.len; simp [tmps, this]
  | _, _, _, .loc _ h => by have := h.len; simp [tmps, this]
def SatA (X : Cx) (W : WX) (t : List TE) (ev : List D → Option (Res (List Arg))) : Prop :=
  ∀ rs r, ev rs = some r → ∀ (sg : L2.St) (G H : Hp) (ts : List D) (tv : List V) (fp : FP) (Q : List V → Hp → Prop), R X.K X.mg G H ts tv rs sg fp →
    (∀ as rs', r = .ok as rs' → ∀ vs va G' H' fp', Step X.K G H fp G' H' fp' → R X.K X.mg G' H' ((tmps as).reverse ++ ts) (va.reverse ++ tv) rs' sg fp' → AR sg as vs va → Q vs H') →
    (∀ x rs', r = .exc x rs' → XP X W x rs' sg G H fp) → runs t sg H Q
/-- several values, all kept -/
def SatV (X : Cx) (W : WX) (t : List TE) (ev : List D → Option (Res (List D))) : Prop :=
  ∀ rs r, ev rs = some r → ∀ (sg : L2.St) (G H : Hp) (ts : List D) (tv : List V) (fp : FP) (Q : List V → Hp → Prop), R X.K X.mg G H ts tv rs sg fp →
    (∀ ds rs', r = .ok ds rs' → ∀ vs G' H' fp', Step X.K G H fp G' H' fp' → R X.K X.mg G' H' (ds.reverse ++ ts) (vs.reverse ++ tv) rs' sg fp' → ds.length = vs.length → Q vs H') →
    (∀ x rs', r = .exc x rs' → XP X W x rs' sg G H fp) → runs t sg H Q

section
variable {X : Cx} {W : WX}
theorem pa_runs : ∀ {es : List Expr} {tes : List TE}, PEs X es tes → (∀ e ∈ es, ∀ r, starEach (e :: r) X.env = (false, eval e X.env) :: starEach r X.env) → PA X es (runs tes)
  | [], [], .nil, _ => pa_nil
  | e :: es, t :: ts, .cons h1 h2, hs => pa_cons h1 (pa_runs h2 fun e he => hs e (List.mem_cons_of_mem _ he)) (hs e List.mem_cons_self es)
theorem satA_nil : SatA X W [] (fun rs => some (.ok [] rs)) := by
  intro rs r e sg G H ts tv fp Q hR h1 h2
  cases e
  exact h1 [] rs rfl [] [] G H fp .refl hR .nil
/-- an operand: a name is left in its slot -/
def opd (s : Option Nat) (r : Option (Res D)) (rs : List D) : Option (Res Arg) :=
  match s with
  | some s => match rs[s]? with
    | some d => if isUn d then none else some (.ok (.loc s) rs)
    | none => none
  | none => Res.bd r fun d rs' => some (.ok (.tmp d) rs')
theorem satA_cons {t : TE} {ts : List TE} {ev : List D → Option (Res D)} {evs : List D → Option (Res (List Arg))} {s : Option Nat}
    (h : match s with
      | some s => t = tVar s
      | none => Sat X W t ev) (hs : SatA X W ts evs) : SatA X W (t :: ts) (fun rs => Res.bd (opd s (ev rs) rs) fun a rs1 => Res.bd (evs rs1) fun as rs2 => some (.ok (a :: as) rs2)) := by
  intro rs r e sg G H τ tv fp Q hR h1 h2
  cases s with
  | some s =>
    have h : t = tVar s := h
    simp only [opd] at e
    cases q : rs[s]? with
    | none => rw [q] at e; cases e
    | some d =>
      rw [q] at e
      simp only at e
      cases u : isUn d with
      | true => rw [u] at e; simp [Res.bd] at e
      | false =>
        rw [u] at e
        simp only [Bool.false_eq_true, if_false, Res.bd_ok] at e
        obtain ⟨v, hv⟩ := hR.val q (by intro z; rw [z] at u; cases u)
        subst h
        refine ⟨v, hv, ?_⟩
        cases q2 : evs rs with
        | none => rw [q2] at e; cases e
        | some r2 =>
          rw [q2] at e
          refine hs rs r2 q2 sg G H τ tv fp _ hR (fun as rs2 er vs va G' H' fp' st R' ar => ?_) (fun x rs2 er => ?_)
          · subst er
            cases e
            exact h1 _ rs2 rfl (v :: vs) va G' H' fp' st R' (.loc hv ar)
          · subst er
            cases e
            exact h2 x rs2 rfl
  | none =>
    have h : Sat X W t ev := h
    simp only [opd] at e
    cases q : ev rs with
    | none => rw [q] at e; cases e
    | some r1 =>
      rw [q] at e
      refine h rs r1 q sg G H τ tv fp _ hR (fun d rs1 er v G1 H1 f1 st1 R1 => ?_) (fun x rs1 er => ?_)
      · subst er
        simp only [Res.bd_ok] at e
        cases q2 : evs rs1 with
        | none => rw [q2] at e; cases e
        | some r2 =>
          rw [q2] at e
          refine hs rs1 r2 q2 sg G1 H1 (d :: τ) (v :: tv) f1 _ R1 (fun as rs2 er vs va G' H' fp' st R' ar => ?_) (fun x rs2 er => ?_)
          · subst er
            cases e
            refine h1 _ rs2 rfl (v :: vs) (v :: va) G' H' fp' (st1.trans st) ?_ (.tmp ar)
            simpa [tmps] using R'
          · subst er
            cases e
            exact (h2 x rs2 rfl).step st1
      · subst er
        cases e
        exact h2 x rs1 rfl
theorem satV_nil : SatV X W [] (fun rs => some (.ok [] rs)) := by
  intro rs r e sg G H ts tv fp Q hR h1 h2
  cases e
  exact h1 [] rs rfl [] G H fp .refl hR rfl
theorem satV_cons {t : TE} {ts : List TE} {ev : List D → Option (Res D)} {evs : List D → Option (Res (List D))} (h : Sat X W t ev) (hs : SatV X W ts evs) :
    SatV X W (t :: ts) (fun rs => Res.bd (ev rs) fun a rs1 => Res.bd (evs rs1) fun as rs2 => some (.ok (a :: as) rs2)) := by
  intro rs r e sg G H τ tv fp Q hR h1 h2
  cases q : ev rs with
  | none => simp only [q] at e; cases e
  | some r1 =>
    simp only [q] at e
    refine h rs r1 q sg G H τ tv fp _ hR (fun d rs1 er v G1 H1 f1 st1 R1 => ?_) (fun x rs1 er => ?_)
    · subst er
      simp only [Res.bd_ok] at e
      cases q2 : evs rs1 with
      | none => rw [q2] at e; cases e
      | some r2 =>
        rw [q2] at e
        refine hs rs1 r2 q2 sg G1 H1 (d :: τ) (v :: tv) f1 _ R1 (fun as rs2 er vs G' H' fp' st R' el => ?_) (fun x rs2 er => ?_)
        · subst er
          cases e
          refine h1 _ rs2 rfl (v :: vs) G' H' fp' (st1.trans st) ?_ (by simp [el])
          simpa using R'
        · subst er
          cases e
          exact (h2 x rs2 rfl).step st1
    · subst er
      cases e
      exact h2 x rs1 rfl

/-- what the operands look like -/
theorem views {K : Fr} {mg : Str → Option Value} {G H : Hp} {sg : L2.St} {rs : List D} : ∀ {as : List Arg} {vs va : List V} {ts : List D} {tv : List V} {fp : FP},
    R K mg G H ((tmps as).reverse ++ ts) (va.reverse ++ tv) rs sg fp → AR sg as vs va → Vws K mg H (as.map (res rs)) vs := by
  intro as vs va ts tv fp hR ar
  have key : ∀ {as : List Arg} {vs va : List V} {f : FP}, AR sg as vs va → Reps K mg G H (tmps as) va f → Vws K mg H (as.map (res rs)) vs := by
    intro as vs va f ar
    induction ar generalizing f with
    | nil => intro _; simp only [List.map_nil, Vws, Reps]; exact fun _ z => z
    | tmp h ih =>
      intro hr
      simp only [tmps, Reps] at hr
      obtain ⟨g1, g2, k1, k2, _, _⟩ := hr
      exact vws_mk (rep_fz (fun a o h => (hR.sub a o h).1) _ (fun a o _ h => h) k1) (ih k2)
    | @loc s v as vs va e h ih =>
      intro hr
      refine vws_mk ?_ (ih hr)
      have hl : s < rs.length := by rw [hR.len]; exact (List.getElem?_eq_some_iff.mp e).1
      have hv := hR.view (List.getElem?_eq_getElem hl) e
      show Vw K mg H (fz (rs.getD s .un)) v
      rw [List.getD_eq_getElem?_getD, List.getElem?_eq_getElem hl]
      exact hv
  obtain ⟨f1, f2, h1, _⟩ := hR.tops (by simp [ar.len.1])
  have h2 := reps_rev h1
  rw [List.reverse_reverse, List.reverse_reverse] at h2
  exact key ar h2

/-! ### a value without lists, reckoned from looked-at operands -/
theorem fin_sc {K : Fr} {mg : Str → Option Value} {G H : Hp} {sg : L2.St} {rs : List D} {as : List Arg} {vs va : List V} {ts : List D} {tv : List V} {fp : FP} {d : D} {v : V}
    (hR : R K mg G H ((tmps as).reverse ++ ts) (va.reverse ++ tv) rs sg fp) (ar : AR sg as vs va) (hs : isSc d = true) (hv : Vw K mg H d v) :
    ∃ fp', R K mg G H (d :: ts) (v :: tv) rs sg fp' ∧ Step K G H fp G H fp' := by
  obtain ⟨f, r, st⟩ := hR.dropN (by simp [ar.len.1])
  exact ⟨f, r.pushE (sc_any hs hv), st⟩

/-- an operation upon looked-at operands -/
def satOp (dl : List D → Option D) (ev : List D → Option (Res (List Arg))) : List D → Option (Res D) := fun rs => Res.bd (ev rs) fun as rs1 =>
  match dl (as.map (res rs1)) with
  | some d => if isSc d then some (.ok d rs1) else none
  | none => none
theorem sat_op {dl : List D → Option D} {tes : List TE} {ev : List D → Option (Res (List Arg))} {t : TE} (Z : VK → List V → Hp → Prop) (hA : SatA X W tes ev)
    (hZ : ∀ Q vs H, (∃ ds d, Vws X.K X.mg H ds vs ∧ dl ds = some d ∧ isSc d = true ∧ ∀ v, Vw X.K X.mg H d v → Q v H) → Z Q vs H)
    (hop : ∀ (sg : L2.St) (H : Hp) (Q : VK), runs tes sg H (Z Q) → t sg H Q) :
    Sat X W t (satOp dl ev) := by
  intro rs r e sg G H τ tv fp Q hR h1 h2
  refine hop sg H Q ?_
  unfold satOp at e
  cases q : ev rs with
  | none => rw [q] at e; cases e
  | some r1 =>
    rw [q] at e
    refine hA rs r1 q sg G H τ tv fp _ hR (fun as rs1 er vs va G1 H1 f1 st R1 ar => ?_) (fun x rs1 er => ?_)
    · subst er
      simp only [Res.bd_ok] at e
      cases q2 : dl (as.map (res rs1)) with
      | none => rw [q2] at e; cases e
      | some d =>
        rw [q2] at e
        simp only at e
        split at e
        · rename_i hs
          cases e
          refine hZ Q vs H1 ⟨_, d, views R1 ar, q2, hs, fun v hv => ?_⟩
          obtain ⟨f, R2, st2⟩ := fin_sc R1 ar hs hv
          exact h1 d rs1 rfl v G1 H1 f (st.trans st2) R2
        · cases e
    · subst er
      cases e
      exact h2 x rs1 rfl
end
end Pv

set_option maxHeartbeats 1000000
namespace Pv
open PySem PySem.Spec PyProof.Rows L2

/-! ### calls -/
def ioOf : List Bool → List Arg → Option (List Nat)
  | [], [] => some []
  | true :: io, .loc s :: as => (ioOf io as).map (s :: ·)
  | false :: io, _ :: as => ioOf io as
  | _, _ => none
def blank (rs : List D) : List Nat → List D
  | [] => rs
  | s :: ss => (blank rs ss).set s .un
def putBack (rs : List D) : List Nat → List D → List D
  | s :: ss, d :: ds => putBack (rs.set s d) ss ds
  | _, _ => rs
def passD (rs0 rsB : List D) : List Bool → List Arg → List D
  | true :: io, .loc s :: as => rs0.getD s .un :: passD rs0 rsB io as
  | false :: io, a :: as => res rsB a :: passD rs0 rsB io as
  | _, _ => []
def freezeV : List Bool → List Arg → List D → List D
  | false :: io, .loc s :: as, rs => freezeV io as (rs.set s (fz (rs.getD s .un)))
  | _ :: io, _ :: as, rs => freezeV io as rs
  | _, _, rs => rs
def nodupB : List Nat → Bool
  | [] => true
  | s :: ss => !ss.contains s && nodupB ss
/-- a call of a def -/
def callD (f : Fn) (as : List Arg) (rs : List D) : Option (Res D) :=
  match ioOf f.io as with
  | none => none
  | some ss => if nodupB ss then
      match f.m (passD rs (blank rs ss) f.io as) with
      | some (.ret d outs) => if outs.length = ss.length then
          if isOwn d && isOwns outs then some (.ok d (putBack (blank rs ss) ss outs))
          else if isFzs (tmps as) then some (.ok d (putBack (freezeV f.io as (blank rs ss)) ss outs)) else none
        else none
      | some (.exc x) => if ss.isEmpty then some (.exc x rs) else none
      | none => none
    else none
/-- the values at the parameters that are changed -/
def ioV : List Bool → List V → List V
  | true :: io, v :: vs => v :: ioV io vs
  | false :: io, _ :: vs => ioV io vs
  | _, _ => []
/-- the promise of a def that does what f says -/
def spOf (K : Fr) (mg : Str → Option Value) (f : Fn) : Sp := fun vs H Q E => vs.length = f.io.length ∧ ∃ (G : Hp) (fp : FP) (ds : List D) (o : Out), Reps K mg G H ds vs fp ∧ (∀ a o, G a = some o → H a = some o ∧ ¬ fp a) ∧ f.m ds = some o ∧
  match o with
  | .ret d outs => ∀ v H' G' fp', Step K G H fp G' H' fp' → R K mg G' H' (d :: outs) (v :: ioV f.io vs) [] [] fp' → Q v H'
  | .exc x => ∀ cls da H' G' fp', Step K G H fp G' H' fp' → R K mg G' H' [] [] [] [] fp' → XRep K mg x cls da H' → E cls da H'

section
variable {K : Fr} {mg : Str → Option Value} {G G' H H' : Hp} {fp : FP} {sg : L2.St}
theorem blank_len (rs : List D) : ∀ ss, (blank rs ss).length = rs.length
  | [] => rfl
  | s :: ss => by simp [blank, blank_len rs ss]
theorem blank_get {rs : List D} {s : Nat} : ∀ {ss : List Nat}, s ∉ ss → (blank rs ss)[s]? = rs[s]?
  | [], _ => rfl
  | t :: ss, h => by
    have h1 : t ≠ s := fun z => h (by simp [z])
    have h2 : s ∉ ss := fun z => h (by simp [z])
    simp only [blank]
    rw [List.getElem?_set_ne h1, blank_get h2]
theorem nodupB_ok : ∀ {ss : List Nat}, nodupB ss = true → ss.Nodup
  | [], _ => List.nodup_nil
  | s :: ss, h => by
    simp only [nodupB, Bool.and_eq_true, Bool.not_eq_true', List.contains_iff_mem] at h
    refine List.nodup_cons.mpr ⟨fun z => ?_, nodupB_ok h.2⟩
    have := h.1
    simp [List.contains_eq_mem, z] at this
/-- the slots' values -/
def SV (sg : L2.St) : List Nat → List V → Prop
  | [], [] => True
  | s :: ss, v :: vs => sg[s]? = some (some v) ∧ SV sg ss vs
  | _, _ => False
theorem SV.len : ∀ {ss : List Nat} {vs : List V}, SV sg ss vs → ss.length = vs.length
  | [], [], _ => rfl
  | _ :: _, _ :: _, h => by simp [SV.len h.2]
  | [], _ :: _, h => h.elim
  | _ :: _, [], h => h.elim
theorem takeIO {ts : List D} {tv : List V} {rs : List D} : ∀ {ss : List Nat} {iv : List V} {fp : FP}, R K mg G H ts tv rs sg fp → ss.Nodup → SV sg ss iv → R K mg G H (ss.map (fun s => rs.getD s .un) ++ ts) (iv ++ tv) (blank rs ss) sg fp
  | [], [], fp, r, _, _ => r
  | s :: ss, v :: iv, fp, r, nd, h => by
    have ih := takeIO r (List.nodup_cons.mp nd).2 h.2
    have hl : s < rs.length := by rw [r.len]; exact (List.getElem?_eq_some_iff.mp h.1).1
    have e : (blank rs ss)[s]? = some (rs.getD s .un) := by
      rw [blank_get (List.nodup_cons.mp nd).1, List.getD_eq_getElem?_getD, List.getElem?_eq_getElem hl]; rfl
    exact ih.take e h.1
  | [], _ :: _, _, _, _, h => h.elim
  | _ :: _, [], _, _, _, h => h.elim
theorem putIO {ts : List D} {tv : List V} : ∀ {ss : List Nat} {iv : List V} {outs : List D} {rs : List D} {fp : FP}, R K mg G H (outs ++ ts) (iv ++ tv) rs sg fp → outs.length = ss.length → SV sg ss iv →
    ∃ fp', R K mg G H ts tv (putBack rs ss outs) sg fp' ∧ Step K G H fp G H fp'
  | [], [], [], rs, fp, r, _, _ => ⟨fp, r, .refl⟩
  | s :: ss, v :: iv, d :: outs, rs, fp, r, el, h => by
    obtain ⟨f1, r1, st1⟩ := r.back (s := s) h.1
    obtain ⟨f2, r2, st2⟩ := putIO r1 (by simpa using el) h.2
    exact ⟨f2, r2, st1.trans st2⟩
  | [], _ :: _, _, _, _, _, _, h => h.elim
  | _ :: _, [], _, _, _, _, _, h => h.elim
  | [], [], _ :: _, _, _, _, el, _ => by simp at el
  | _ :: _, _ :: _, [], _, _, _, el, _ => by simp at el
theorem mem_tmps {d : D} : ∀ {l : List Arg}, Arg.tmp d ∈ l → d ∈ tmps l
  | x :: l, z => by
    rcases List.mem_cons.mp z with e | q
    · subst e; simp [tmps]
    · cases x with
      | tmp y => simp only [tmps]; exact List.mem_cons_of_mem _ (mem_tmps q)
      | loc y => simp only [tmps]; exact mem_tmps q
/-- the operands, as what stays may be told wider -/
theorem viewsG {rs : List D} {as : List Arg} {vs va : List V} {ts : List D} {tv : List V}
    (hR : R K mg G H ((tmps as).reverse ++ ts) (va.reverse ++ tv) rs sg fp) (ar : AR sg as vs va)
    (hc : ∀ (d : D) (v : V) (f : FP), (d ∈ tmps as ∨ ∃ s, Arg.loc s ∈ as ∧ rs[s]? = some d) → (∀ a, f a → fp a) → Rep K mg G H d v f → Rep K mg G' H (fz d) v (fun _ => False)) : Reps K mg G' H (as.map (res rs)) vs (fun _ => False) := by
  have key : ∀ {bs : List Arg} {vs va : List V} {f : FP}, (∀ b ∈ bs, b ∈ as) → AR sg bs vs va → Reps K mg G H (tmps bs) va f → (∀ a, f a → fp a) → Reps K mg G' H (bs.map (res rs)) vs (fun _ => False) := by
    intro bs vs va f hb ar
    induction ar generalizing f with
    | nil => intro _ _; simp only [List.map_nil, Reps]; exact fun _ z => z
    | @tmp d v bs vs va h ih =>
      intro hr hf
      simp only [tmps, Reps] at hr
      obtain ⟨g1, g2, k1, k2, _, k4⟩ := hr
      simp only [List.map_cons, Reps]
      refine ⟨_, _, hc d v g1 (.inl ?_) (fun a ha => hf a ((k4 a).2 (.inl ha))) k1, ih (fun b z => hb b (List.mem_cons_of_mem _ z)) k2 (fun a ha => hf a ((k4 a).2 (.inr ha))), fun _ z => z.elim, fun a => by simp⟩
      have hm : Arg.tmp d ∈ as := hb _ List.mem_cons_self
      exact mem_tmps hm
    | @loc s v bs vs va e h ih =>
      intro hr hf
      have hl : s < rs.length := by rw [hR.len]; exact (List.getElem?_eq_some_iff.mp e).1
      obtain ⟨f1, f2, h1, r2, dj, e2⟩ := (hR.take (List.getElem?_eq_getElem hl) e).top
      simp only [List.map_cons, Reps]
      refine ⟨fun _ => False, fun _ => False, ?_, ih (fun b z => hb b (List.mem_cons_of_mem _ z)) hr hf, fun _ z => z.elim, fun a => by simp⟩
      show Rep K mg G' H (fz (rs.getD s .un)) v _
      rw [List.getD_eq_getElem?_getD, List.getElem?_eq_getElem hl]
      exact hc _ v f1 (.inr ⟨s, hb _ List.mem_cons_self, List.getElem?_eq_getElem hl⟩) (fun a ha => (e2 a).2 (.inl ha)) h1
  obtain ⟨f1, f2, h1, _, _, e⟩ := hR.tops (by simp [ar.len.1])
  have h2 := reps_rev h1
  rw [List.reverse_reverse, List.reverse_reverse] at h2
  exact key (fun _ h => h) ar h2 fun a ha => (e a).2 (.inl ha)
/-- the values at the changed parameters are those of their slots -/
theorem sv_of : ∀ {io : List Bool} {as : List Arg} {vs va : List V} {ss : List Nat}, ioOf io as = some ss → AR sg as vs va → SV sg ss (ioV io vs) ∧ vs.length = io.length
  | [], [], _, _, ss, e, .nil => by cases e; exact ⟨trivial, rfl⟩
  | true :: io, .loc s :: as, _, _, ss, e, .loc h ar => by
    simp only [ioOf] at e
    obtain ⟨ss', e1, rfl⟩ := Option.map_eq_some_iff.mp e
    obtain ⟨h1, h2⟩ := sv_of e1 ar
    exact ⟨⟨h, h1⟩, by simp [h2]⟩
  | false :: io, .loc s :: as, _, _, ss, e, .loc h ar => by
    simp only [ioOf] at e
    obtain ⟨h1, h2⟩ := sv_of e ar
    exact ⟨h1, by simp [h2]⟩
  | false :: io, .tmp d :: as, _, _, ss, e, .tmp ar => by
    simp only [ioOf] at e
    obtain ⟨h1, h2⟩ := sv_of e ar
    exact ⟨h1, by simp [h2]⟩
  | true :: io, .tmp d :: as, _, _, ss, e, _ => by simp [ioOf] at e
  | [], _ :: _, _, _, _, e, _ => by simp [ioOf] at e
  | true :: _, [], _, _, _, e, _ => by simp [ioOf] at e
  | false :: _, [], _, _, _, e, _ => by simp [ioOf] at e
theorem vws_cons_g {d : D} {ds : List D} {v : V} {vs : List V} (h : Reps K mg G H (d :: ds) (v :: vs) (fun _ => False)) : Rep K mg G H d v (fun _ => False) ∧ Reps K mg G H ds vs (fun _ => False) := by
  simp only [Reps] at h
  obtain ⟨f1, f2, h1, h2, _, e⟩ := h
  exact ⟨rep_iff h1 fun a => ⟨fun z => (e a).2 (.inl z), fun z => z.elim⟩, reps_iff h2 fun a => ⟨fun z => (e a).2 (.inr z), fun z => z.elim⟩⟩
/-- looked-at and changed ones together -/
theorem mixed {rs rsB : List D} : ∀ {io : List Bool} {as : List Arg} {vs va : List V} {ss : List Nat} {f : FP}, ioOf io as = some ss → AR sg as vs va → Reps K mg G H (as.map (res rsB)) vs (fun _ => False) → Reps K mg G H (ss.map (fun s => rs.getD s .un)) (ioV io vs) f →
    Reps K mg G H (passD rs rsB io as) vs f
  | [], [], _, _, ss, f, e, .nil, _, h2 => by cases e; exact h2
  | true :: io, .loc s :: as, _, _, ss, f, e, .loc h ar, h1, h2 => by
    simp only [ioOf] at e
    obtain ⟨ss', e1, rfl⟩ := Option.map_eq_some_iff.mp e
    simp only [List.map_cons, ioV, Reps] at h2
    obtain ⟨g1, g2, k1, k2, k3, k4⟩ := h2
    have h1' := vws_cons_g h1
    simp only [passD, Reps]
    exact ⟨g1, g2, k1, mixed e1 ar h1'.2 k2, k3, k4⟩
  | false :: io, .loc s :: as, _, _, ss, f, e, .loc h ar, h1, h2 => by
    simp only [ioOf] at e
    have h1' := vws_cons_g h1
    simp only [passD, Reps]
    exact ⟨_, f, h1'.1, mixed e ar h1'.2 h2, fun _ z => z.elim, fun a => by simp⟩
  | false :: io, .tmp d :: as, _, _, ss, f, e, .tmp ar, h1, h2 => by
    simp only [ioOf] at e
    have h1' := vws_cons_g h1
    simp only [passD, Reps]
    exact ⟨_, f, h1'.1, mixed e ar h1'.2 h2, fun _ z => z.elim, fun a => by simp⟩
  | true :: io, .tmp d :: as, _, _, ss, _, e, _, _, _ => by simp [ioOf] at e
  | [], _ :: _, _, _, _, _, e, _, _, _ => by simp [ioOf] at e
  | true :: _, [], _, _, _, _, e, _, _, _ => by simp [ioOf] at e
  | false :: _, [], _, _, _, _, e, _, _, _ => by simp [ioOf] at e
/-- all but some places -/
theorem wider (G H : Hp) (f : FP) : ∃ G' : Hp, (∀ a o, G a = some o → ¬ f a → G' a = some o) ∧ (∀ a o, f a → H a = some o → G' a = some o) ∧ ∀ a o, G' a = some o → (G a = some o ∧ ¬ f a) ∨ (f a ∧ H a = some o) := by
  refine ⟨fun a => @ite _ (f a) (Classical.propDecidable _) (H a) (G a), fun a o h n => ?_, fun a o h1 h2 => ?_, fun a o h => ?_⟩
  · show (@ite _ (f a) (Classical.propDecidable _) (H a) (G a)) = some o
    rw [if_neg n]; exact h
  · show (@ite _ (f a) (Classical.propDecidable _) (H a) (G a)) = some o
    rw [if_pos h1]; exact h2
  · by_cases n : f a
    · have h' : (@ite _ (f a) (Classical.propDecidable _) (H a) (G a)) = some o := h
      rw [if_pos n] at h'
      exact .inr ⟨n, h'⟩
    · have h' : (@ite _ (f a) (Classical.propDecidable _) (H a) (G a)) = some o := h
      rw [if_neg n] at h'
      exact .inl ⟨h', n⟩
/-- the slots that are looked at, frozen -/
theorem R.freezeV {ts : List D} {tv : List V} : ∀ {io : List Bool} {as : List Arg} {vs va : List V} {rs : List D} {G : Hp} {fp : FP}, R K mg G H ts tv rs sg fp → AR sg as vs va →
    ∃ G' fp', R K mg G' H ts tv (Pv.freezeV io as rs) sg fp' ∧ Step K G H fp G' H fp'
  | false :: io, .loc s :: as, _, _, rs, G, fp, r, .loc h ar => by
    have hl : s < rs.length := by rw [r.len]; exact (List.getElem?_eq_some_iff.mp h).1
    have e : rs[s]? = some (rs.getD s .un) := by rw [List.getD_eq_getElem?_getD, List.getElem?_eq_getElem hl]; rfl
    obtain ⟨G1, f1, r1, st1⟩ := r.slotFz e h
    obtain ⟨f2, r2, st2⟩ := r1.drop
    obtain ⟨G3, f3, r3, st3⟩ := R.freezeV (io := io) r2 ar
    exact ⟨G3, f3, r3, (st1.trans st2).trans st3⟩
  | true :: io, .loc s :: as, _, _, rs, G, fp, r, .loc h ar => R.freezeV (io := io) r ar
  | false :: io, .tmp d :: as, _, _, rs, G, fp, r, .tmp ar => R.freezeV (io := io) r ar
  | true :: io, .tmp d :: as, _, _, rs, G, fp, r, .tmp ar => R.freezeV (io := io) r ar
  | [], as, _, _, rs, G, fp, r, ar => ⟨G, fp, by cases as <;> exact r, .refl⟩
  | true :: _, [], _, _, rs, G, fp, r, ar => ⟨G, fp, r, .refl⟩
  | false :: _, [], _, _, rs, G, fp, r, ar => ⟨G, fp, r, .refl⟩
theorem freezeV_len : ∀ {io : List Bool} {as : List Arg} {rs : List D}, (freezeV io as rs).length = rs.length
  | false :: io, .loc s :: as, rs => by simp [freezeV, freezeV_len (io := io) (as := as)]
  | true :: io, .loc s :: as, rs => by simp [freezeV, freezeV_len (io := io) (as := as)]
  | false :: io, .tmp s :: as, rs => by simp [freezeV, freezeV_len (io := io) (as := as)]
  | true :: io, .tmp s :: as, rs => by simp [freezeV, freezeV_len (io := io) (as := as)]
  | [], [], rs => rfl
  | [], _ :: _, rs => rfl
  | true :: _, [], rs => rfl
  | false :: _, [], rs => rfl
/-- frozen all over -/
theorem isFzs_mem : ∀ {ds : List D} {d : D}, isFzs ds = true → d ∈ ds → isFz d = true
  | [], _, _, h => by cases h
  | x :: xs, d, e, h => by
    simp only [isFzs, Bool.and_eq_true] at e
    rcases List.mem_cons.mp h with rfl | h
    · exact e.1
    · exact isFzs_mem e.2 h
theorem rep_of_fz {d : D} {v : V} {f : FP} (h : isFz d = true) (r : Rep K mg G H d v f) : Rep K mg G H (fz d) v (fun _ => False) := by
  rw [fz_id d h]
  exact rep_iff r fun a => ⟨fun z => rep_emp d h r a z, fun z => z.elim⟩
/-- the slots that are looked at are frozen -/
theorem freezeV_fz : ∀ {io : List Bool} {as : List Arg} {rs : List D} {s : Nat} {d : D}, (freezeV io as rs)[s]? = some d → rs[s]? = some d ∨ isFz d = true
  | false :: io, .loc t :: as, rs, s, d, h => by
    rcases freezeV_fz (io := io) (as := as) h with h | h
    · by_cases e : t = s
      · subst e
        have hl : t < rs.length := by
          have := (List.getElem?_eq_some_iff.mp h).1
          simpa using this
        rw [List.getElem?_set_self hl] at h
        cases h
        exact .inr (isFz_fz _)
      · rw [List.getElem?_set_ne e] at h
        exact .inl h
    · exact .inr h
  | true :: io, .loc t :: as, rs, s, d, h => freezeV_fz (io := io) (as := as) h
  | false :: io, .tmp t :: as, rs, s, d, h => freezeV_fz (io := io) (as := as) h
  | true :: io, .tmp t :: as, rs, s, d, h => freezeV_fz (io := io) (as := as) h
  | [], [], rs, s, d, h => .inl h
  | [], _ :: _, rs, s, d, h => .inl h
  | true :: _, [], rs, s, d, h => .inl h
  | false :: _, [], rs, s, d, h => .inl h
theorem freezeV_isFz : ∀ {io : List Bool} {as : List Arg} {rs : List D} {ss : List Nat} {s : Nat} {d : D}, ioOf io as = some ss → (∀ t ∈ ss, ∀ d, rs[t]? = some d → isFz d = true) → Arg.loc s ∈ as → (freezeV io as rs)[s]? = some d → isFz d = true
  | true :: io, .loc t :: as, rs, ss, s, d, e, hs, hm, h => by
    simp only [ioOf] at e
    obtain ⟨ss', e1, rfl⟩ := Option.map_eq_some_iff.mp e
    rcases List.mem_cons.mp hm with z | z
    · cases z
      rcases freezeV_fz (io := io) (as := as) h with q | q
      · exact hs _ List.mem_cons_self _ q
      · exact q
    · exact freezeV_isFz (io := io) e1 (fun t ht => hs t (List.mem_cons_of_mem _ ht)) z h
  | false :: io, .loc t :: as, rs, ss, s, d, e, hs, hm, h => by
    simp only [ioOf] at e
    have hs' : ∀ u ∈ ss, ∀ d, (rs.set t (fz (rs.getD t .un)))[u]? = some d → isFz d = true := fun u hu d hd => by
      by_cases z : t = u
      · subst z
        have hl : t < rs.length := by simpa using (List.getElem?_eq_some_iff.mp hd).1
        rw [List.getElem?_set_self hl] at hd
        cases hd; exact isFz_fz _
      · rw [List.getElem?_set_ne z] at hd
        exact hs u hu d hd
    rcases List.mem_cons.mp hm with z | z
    · cases z
      rcases freezeV_fz (io := io) (as := as) (show (freezeV io as (rs.set t (fz (rs.getD t .un))))[t]? = some d from h) with q | q
      · have hl : t < rs.length := by simpa using (List.getElem?_eq_some_iff.mp q).1
        rw [List.getElem?_set_self hl] at q
        cases q; exact isFz_fz _
      · exact q
    · exact freezeV_isFz (io := io) e hs' z h
  | false :: io, .tmp t :: as, rs, ss, s, d, e, hs, hm, h => by
    simp only [ioOf] at e
    have hm' : Arg.loc s ∈ as := by
      rcases List.mem_cons.mp hm with q | q
      · cases q
      · exact q
    exact freezeV_isFz (io := io) e hs hm' h
  | true :: io, .tmp t :: as, rs, ss, s, d, e, hs, hm, h => by simp [ioOf] at e
  | [], [], rs, ss, s, d, e, hs, hm, h => by cases hm
  | [], _ :: _, rs, ss, s, d, e, hs, hm, h => by simp [ioOf] at e
  | true :: _, [], rs, ss, s, d, e, hs, hm, h => by simp [ioOf] at e
  | false :: _, [], rs, ss, s, d, e, hs, hm, h => by simp [ioOf] at e
theorem fz_fz (d : D) : fz (fz d) = fz d := fz_id _ (isFz_fz d)
theorem freezeV_res : ∀ {io : List Bool} {as : List Arg} {rs : List D} (s : Nat), fz ((freezeV io as rs).getD s .un) = fz (rs.getD s .un)
  | false :: io, .loc t :: as, rs, s => by
    show fz ((freezeV io as (rs.set t (fz (rs.getD t .un)))).getD s .un) = _
    rw [freezeV_res (io := io) (as := as)]
    by_cases z : t = s
    · subst z
      by_cases hl : t < rs.length
      · rw [List.getD_eq_getElem?_getD, List.getElem?_set_self hl]
        exact fz_fz _
      · rw [List.set_eq_of_length_le (by omega)]
    · rw [List.getD_eq_getElem?_getD, List.getElem?_set_ne z, ← List.getD_eq_getElem?_getD]
  | true :: io, .loc t :: as, rs, s => freezeV_res (io := io) (as := as) s
  | false :: io, .tmp t :: as, rs, s => freezeV_res (io := io) (as := as) s
  | true :: io, .tmp t :: as, rs, s => freezeV_res (io := io) (as := as) s
  | [], [], rs, s => rfl
  | [], _ :: _, rs, s => rfl
  | true :: _, [], rs, s => rfl
  | false :: _, [], rs, s => rfl
theorem res_freezeV {io : List Bool} {as bs : List Arg} {rs : List D} : bs.map (res (freezeV io as rs)) = bs.map (res rs) :=
  List.map_congr_left fun a _ => by
    cases a with
    | tmp d => rfl
    | loc s => exact freezeV_res s
theorem isFzs_tmps {as : List Arg} {d : D} (h : isFzs (tmps as) = true) (hm : d ∈ tmps as) : isFz d = true := isFzs_mem h hm
theorem repsR {ds : List D} {vs : List V} {f : FP} (h : Reps K mg G H ds vs f) (hs : ∀ a o, G a = some o → H a = some o ∧ ¬ f a) : R K mg G H ds vs [] [] f :=
  ⟨⟨f, fun _ => False, h, fun _ z => z, fun _ _ z => z, fun a => by simp⟩, hs⟩
theorem R.reps {ds : List D} {vs : List V} {f : FP} (h : R K mg G H ds vs [] [] f) : Reps K mg G H ds vs f := by
  obtain ⟨⟨ft, fs, h1, h2, h3, h4⟩, _⟩ := h
  exact reps_iff h1 fun a => ⟨fun z => (h4 a).2 (.inl z), fun z => ((h4 a).1 z).elim id fun q => absurd q (h2 a)⟩

/-- everything of its own: what stays doesn't matter -/
theorem rep_own_all {d : D} {outs : List D} {vs : List V} {f : FP} (h : isOwn d = true ∧ isOwns outs = true) (r : Reps K mg G H (d :: outs) vs f) : Reps K mg G' H (d :: outs) vs f :=
  reps_own (d :: outs) (by simp [isOwns, h.1, h.2]) r
/-- several laid on -/
theorem R.pushN {as : List D} {va : List V} {ts : List D} {tv : List V} {rs : List D} {f1 f2 : FP} (r : R K mg G H ts tv rs sg f2) (h : Reps K mg G H as va f1) (dj : ∀ a, f1 a → ¬ f2 a) (hg : ∀ a o, G a = some o → ¬ f1 a) : R K mg G H (as ++ ts) (va ++ tv) rs sg (fun a => f1 a ∨ f2 a) := by
  obtain ⟨⟨ft, fs, h1, h2, h3, h4⟩, sub⟩ := r
  refine ⟨⟨fun a => f1 a ∨ ft a, fs, reps_app h h1 fun a ha hb => dj a ha ((h4 a).2 (.inl hb)), h2, fun a ha hb => ?_, fun a => ?_⟩, fun a o e => ⟨(sub a o e).1, fun z => z.elim (hg a o e) (sub a o e).2⟩⟩
  · rcases ha with ha | ha
    · exact dj a ha ((h4 a).2 (.inr hb))
    · exact h3 a ha hb
  · rw [h4 a, or_assoc]
/-- what stays, and the heap, grow -/
theorem R.toG {ts : List D} {tv : List V} {rs : List D} (r : R K mg G H ts tv rs sg fp) (hg : ∀ a o, G a = some o → G' a = some o) (ht : ∀ a vs, SqT K H a vs → SqT K H' a vs) (hh : ∀ a o, fp a → H a = some o → H' a = some o) (hs : ∀ a o, G' a = some o → H' a = some o)
    (hn : ∀ a o, G' a = some o → ¬ fp a) : R K mg G' H' ts tv rs sg fp := by
  obtain ⟨⟨ft, fs, h1, h2, h3, h4⟩, sub⟩ := r
  exact ⟨⟨ft, fs, reps_mono hg ht ts (fun a o ha => hh a o ((h4 a).2 (.inl ha))) h1, repsO_mono hg ht (fun a o ha => hh a o ((h4 a).2 (.inr ha))) h2, h3, h4⟩, fun a o e => ⟨hs a o e, hn a o e⟩⟩
theorem blank_at {rs : List D} : ∀ {ss : List Nat} {t : Nat} {d : D}, t ∈ ss → (blank rs ss)[t]? = some d → d = .un
  | s :: ss, t, d, hm, h => by
    simp only [blank] at h
    by_cases z : s = t
    · subst z
      have hl : s < (blank rs ss).length := by simpa using (List.getElem?_eq_some_iff.mp h).1
      rw [List.getElem?_set_self hl] at h
      cases h; rfl
    · rw [List.getElem?_set_ne z] at h
      rcases List.mem_cons.mp hm with q | q
      · exact absurd q.symm z
      · exact blank_at q h
  | [], _, _, hm, _ => by cases hm
/-- the answer below, the changed ones back in their slots -/
theorem R.swapIO {d : D} {outs : List D} {v : V} {iv : List V} {ts : List D} {tv : List V} {rs : List D} {ss : List Nat} (r : R K mg G H (d :: outs ++ ts) (v :: iv ++ tv) rs sg fp) (el : outs.length = ss.length) (sv : SV sg ss iv) :
    ∃ fp', R K mg G H (d :: ts) (v :: tv) (putBack rs ss outs) sg fp' ∧ Step K G H fp G H fp' := by
  obtain ⟨f1, f2, h1, r2, dj, e⟩ := (show R K mg G H (d :: (outs ++ ts)) (v :: (iv ++ tv)) rs sg fp from r).top
  obtain ⟨f3, r3, st3⟩ := putIO r2 el sv
  have le3 : ∀ a, f3 a → f2 a := fun a z => by
    rcases st3.new a z with q | q
    · rcases r3.there a z with ⟨_, w⟩ | ⟨_, _, _, w⟩ <;> (rw [q] at w; cases w)
    · exact q
  refine ⟨_, r3.push h1 (fun a ha hb => dj a ha (le3 a hb)) (fun a o h z => (r.sub a o h).2 ((e a).2 (.inl z))), .less fun a z => ?_⟩
  rcases z with z | z
  · exact (e a).2 (.inl z)
  · exact (e a).2 (.inr (le3 a z))

/-- A CALL: the arguments stand ready, the def does what f says -/
theorem call_sp {f : Fn} {as : List Arg} {rs : List D} {r : Res D} {ts : List D} {tv vs va : List V} {Q : VK} {E : XK} (hR : R K mg G H ((tmps as).reverse ++ ts) (va.reverse ++ tv) rs sg fp) (ar : AR sg as vs va) (e : callD f as rs = some r)
    (h1 : ∀ d rs', r = .ok d rs' → ∀ v G' H' fp', Step K G H fp G' H' fp' → R K mg G' H' (d :: ts) (v :: tv) rs' sg fp' → Q v H')
    (h2 : ∀ x rs', r = .exc x rs' → ∀ cls da G' H' fp', Step K G H fp G' H' fp' → R K mg G' H' [] [] rs' sg fp' → XRep K mg x cls da H' → E cls da H') : spOf K mg f vs H Q E := by
  unfold callD at e
  cases q1 : ioOf f.io as with
  | none => rw [q1] at e; cases e
  | some ss =>
    rw [q1] at e
    simp only at e
    split at e
    case isFalse => cases e
    rename_i hnd
    have nd := nodupB_ok hnd
    obtain ⟨sv, el⟩ := sv_of q1 ar
    refine ⟨el, ?_⟩
    -- the changed ones are taken out
    have rT := takeIO hR nd sv
    obtain ⟨fI, f2, kI, r2, dj, ef⟩ := rT.tops (by simp [sv.len])
    cases q2 : f.m (passD rs (blank rs ss) f.io as) with
    | none => rw [q2] at e; cases e
    | some o =>
      rw [q2] at e
      cases o with
      | exc x =>
        simp only at e
        split at e
        case isFalse => cases e
        rename_i hss
        cases e
        cases ss with
        | cons _ _ => cases hss
        | nil =>
          obtain ⟨Gc, c1, c2, c3⟩ := wider G H f2
          have fIe : ∀ a, ¬ fI a := by
            have kI' := kI
            cases hv : ioV f.io vs with
            | nil => rw [hv] at kI'; simp only [List.map_nil, Reps] at kI'; exact kI'
            | cons _ _ => rw [hv] at kI'; simp only [List.map_nil, Reps] at kI'
          have cG : ∀ a o, G a = some o → Gc a = some o := fun a o h => c1 a o h fun z => (r2.sub a o h).2 z
          have vw := viewsG (G' := Gc) r2 ar fun d v f _ hf hr => rep_fz cG d (fun a o ha h => c2 a o (hf a ha) h) hr
          have cS : ∀ a o, Gc a = some o → H a = some o ∧ ¬ fI a := fun a o h => ⟨(c3 a o h).elim (fun z => (r2.sub a o z.1).1) fun z => z.2, fIe a⟩
          refine ⟨Gc, fI, _, .exc x, mixed q1 ar vw (reps_mono cG (fun _ _ h => h) _ (fun _ _ _ h => h) kI), cS, q2, fun cls da H' G' fp' st _ xr => ?_⟩
          obtain ⟨f3, r3, st3⟩ := r2.dropN (by simp [ar.len.1])
          obtain ⟨f4, r4, st4⟩ := (show R K mg G H (ts ++ []) (tv ++ []) _ sg f3 by simpa using r3).dropN (by rw [r3.tlen])
          have le4 : ∀ a, f4 a → fp a := fun a z => by
            cases eh : H a with
            | none => exact absurd (r4.there a z) (by rw [eh]; rintro (⟨_, q⟩ | ⟨_, _, _, q⟩) <;> cases q)
            | some o =>
              have s34 := (st3.trans st4).new a z
              rcases s34 with q | q
              · rw [eh] at q; cases q
              · exact (ef a).2 (.inr q)
          have r5 := r4.mono (H' := H') st.tups (fun a o ha h => st.keep a o h (fIe a)) (fun a o h => st.keep a o (r4.sub a o h).1 (fIe a))
          refine h2 x rs rfl cls da G H' f4 ⟨fun a o h n => st.keep a o h (fIe a), st.tups, fun a z => .inr (le4 a z), fun _ _ h => h, fun a o h => .inl h⟩ r5 xr
      | ret d outs =>
        simp only at e
        split at e
        case isFalse => cases e
        rename_i hol
        split at e
        · -- all is of its own: nothing else is touched
          rename_i hown
          rw [Bool.and_eq_true] at hown
          cases e
          obtain ⟨Gc, c1, c2, c3⟩ := wider G H f2
          have cG : ∀ a o, G a = some o → Gc a = some o := fun a o h => c1 a o h fun z => (r2.sub a o h).2 z
          have vw := viewsG (G' := Gc) r2 ar fun d v f _ hf hr => rep_fz cG d (fun a o ha h => c2 a o (hf a ha) h) hr
          have cS : ∀ a o, Gc a = some o → H a = some o ∧ ¬ fI a := fun a o h => by
            rcases c3 a o h with z | z
            · exact ⟨(r2.sub a o z.1).1, fun q => (rT.sub a o z.1).2 ((ef a).2 (.inl q))⟩
            · exact ⟨z.2, fun q => dj a q z.1⟩
          refine ⟨Gc, fI, _, .ret d outs, mixed q1 ar vw (reps_mono cG (fun _ _ h => h) _ (fun _ _ _ h => h) kI), cS, q2, fun v H' G' fo st ro => ?_⟩
          obtain ⟨f3, r3, st3⟩ := r2.dropN (by simp [ar.len.1])
          have le3 : ∀ a, f3 a → f2 a := fun a z => by
            rcases st3.new a z with q | q
            · rcases r3.there a z with ⟨_, w⟩ | ⟨_, _, _, w⟩ <;> (rw [q] at w; cases w)
            · exact q
          have n3 : ∀ a, f3 a → ¬ fI a := fun a z q => dj a q (le3 a z)
          have r5 := r3.mono (H' := H') st.tups (fun a o ha h => st.keep a o h (n3 a ha)) (fun a o h => st.keep a o (r3.sub a o h).1 (cS a o (cG a o h)).2)
          have ko := rep_own_all (G' := G) hown ro.reps
          have djo : ∀ a, fo a → ¬ f3 a := fun a z q => by
            rcases st.new a z with w | w
            · rcases r3.there a q with ⟨_, y⟩ | ⟨_, _, _, y⟩ <;> (rw [w] at y; cases y)
            · exact n3 a q w
          have r6 := r5.pushN ko djo fun a o h z => (ro.sub a o (st.grow a o (cG a o h))).2 z
          obtain ⟨f7, r7, st7⟩ := r6.swapIO hol sv
          refine h1 d _ rfl v G H' f7 (Step.trans ⟨fun a o h n => st.keep a o h fun z => n ((ef a).2 (.inl z)), st.tups, fun a z => ?_, fun _ _ h => h, fun a o h => .inl h⟩ st7) r7
          rcases z with z | z
          · rcases st.new a z with w | w
            · exact .inl w
            · exact .inr ((ef a).2 (.inl w))
          · exact .inr ((ef a).2 (.inr (le3 a z)))
        · -- what is looked at is frozen
          split at e
          case isFalse => cases e
          rename_i hfz
          cases e
          obtain ⟨G1, f3, r3, st3⟩ := R.freezeV (io := f.io) r2 ar
          have r3' : R K mg G1 H ((tmps as).reverse ++ ts) (va.reverse ++ tv) (freezeV f.io as (blank rs ss)) sg f3 := r3
          have hb : ∀ t ∈ ss, ∀ d, (blank rs ss)[t]? = some d → isFz d = true := fun t ht d hd => by
            rw [blank_at ht hd]; rfl
          have vw := viewsG (G' := G1) r3' ar fun d v f hm _ hr => rep_of_fz (by
            rcases hm with hm | ⟨s, hm, hd⟩
            · exact isFzs_tmps hfz hm
            · exact freezeV_isFz q1 hb hm hd) hr
          rw [res_freezeV] at vw
          have le3 : ∀ a, f3 a → f2 a := fun a z => by
            rcases st3.new a z with q | q
            · rcases r3.there a z with ⟨_, w⟩ | ⟨_, _, _, w⟩ <;> (rw [q] at w; cases w)
            · exact q
          have cS : ∀ a o, G1 a = some o → H a = some o ∧ ¬ fI a := fun a o h => ⟨(r3.sub a o h).1, fun q => by
            rcases st3.lim a o h with w | w | w
            · exact (rT.sub a o w).2 ((ef a).2 (.inl q))
            · have := (r3.sub a o h).1; rw [w] at this; cases this
            · exact dj a q w⟩
          refine ⟨G1, fI, _, .ret d outs, mixed q1 ar vw (reps_mono st3.grow (fun _ _ h => h) _ (fun _ _ _ h => h) kI), cS, q2, fun v H' G' fo st ro => ?_⟩
          obtain ⟨f4, r4, st4⟩ := r3.dropN (by simp [ar.len.1])
          have le4 : ∀ a, f4 a → f2 a := fun a z => by
            rcases st4.new a z with q | q
            · rcases r4.there a z with ⟨_, w⟩ | ⟨_, _, _, w⟩ <;> (rw [q] at w; cases w)
            · exact le3 a q
          have n4 : ∀ a, f4 a → ¬ fI a := fun a z q => dj a q (le4 a z)
          have r5 := R.toG (H' := H') r4 st.grow st.tups (fun a o ha h => st.keep a o h (n4 a ha)) (fun a o h => (ro.sub a o h).1) (fun a o h z => by
            rcases st.lim a o h with w | w | w
            · exact (r4.sub a o w).2 z
            · rcases r4.there a z with ⟨_, y⟩ | ⟨_, _, _, y⟩ <;> (rw [w] at y; cases y)
            · exact n4 a z w)
          have djo : ∀ a, fo a → ¬ f4 a := fun a z q => by
            rcases st.new a z with w | w
            · rcases r4.there a q with ⟨_, y⟩ | ⟨_, _, _, y⟩ <;> (rw [w] at y; cases y)
            · exact n4 a q w
          have r6 := r5.pushN ro.reps djo fun a o h z => (ro.sub a o h).2 z
          obtain ⟨f7, r7, st7⟩ := r6.swapIO hol sv
          refine h1 d _ rfl v G' H' f7 (Step.trans ⟨fun a o h n => st.keep a o h fun z => n ((ef a).2 (.inl z)), st.tups, fun a z => ?_, fun a o h => st.grow a o (st3.grow a o h), fun a o h => ?_⟩ st7) r7
          · rcases z with z | z
            · rcases st.new a z with w | w
              · exact .inl w
              · exact .inr ((ef a).2 (.inl w))
            · exact .inr ((ef a).2 (.inr (le4 a z)))
          · rcases st.lim a o h with w | w | w
            · rcases st3.lim a o w with y | y | y
              · exact .inl y
              · exact .inr (.inl y)
              · exact .inr (.inr ((ef a).2 (.inr y)))
            · exact .inr (.inl w)
            · exact .inr (.inr ((ef a).2 (.inl w)))
end
end Pv

set_option maxHeartbeats 1000000
namespace Pv
open PySem PySem.Spec PyProof.Rows L2

/-! ### the language of expressions -/
mutual
inductive E where
  | var (i : Nat)
  | con (d : D)
  | glo (x : Str) (d : D)
  | op2 (p : P2) (a b : E)
  | neg (a : E)
  | lnot (a : E)
  | land (as : Es)
  | lor (as : Es)
  | ite (c a b : E)
  | chn (p q : P2) (a b c : E)
  | fnc (p : PF) (as : Es)
  | isi (a : E) (T : String)
  | call (x : Str) (f : Fn) (as : Es)
  | tup (as : Es)
  | lst (as : Es)
  | ix (a i : E)
  | pk (a : E)
  | cpy (a : E)
inductive Es where
  | nil
  | cons (a : E) (r : Es)
end
def slotOf : E → Option Nat
  | .var s => some s
  | _ => none
def itemsOf : D → Option (List D)
  | .tup xs => some xs
  | .lst _ xs => some xs
  | _ => none
/-- the kinds of a value, by the built-in type's name -/
def dIs (T : String) (d : D) : Option D := match tyName d with
  | some n => (kitB n T).map .bl
  | none => none
def one (f : D → Option D) : List D → Option D
  | [x] => f x
  | _ => none
def two (f : D → D → Option D) : List D → Option D
  | [x, y] => f x y
  | _ => none
def dNeg : D → Option D
  | .int i => some (.int (-i))
  | _ => none
def scOnly : Option D → Option D
  | some d => if isSc d then some d else none
  | none => none
def at2 : D → D → Option D
  | d, .int k => match itemsOf d with
    | some xs => atI xs k
    | none => none
  | _, _ => none
def ob {A B : Type} (r : Option A) (f : A → Option B) : Option B := match r with
  | some a => f a
  | none => none
mutual
/-- an expression that changes nothing, by a look -/
def evP : E → List D → Option D
  | .var s, rs => match rs[s]? with
    | some d => if isUn d then none else some (fz d)
    | none => none
  | .con d, _ => some d
  | .glo _ d, _ => some d
  | .op2 p a b, rs => ob (evP a rs) fun x => ob (evP b rs) fun y => scOnly (d2 p x y)
  | .neg a, rs => ob (evP a rs) fun x => dNeg x
  | .fnc p as, rs => ob (evPs as rs) fun xs => scOnly (dF p xs)
  | .isi a T, rs => ob (evP a rs) fun x => scOnly (dIs T x)
  | .ix a i, rs => ob (evP a rs) fun x => ob (evP i rs) fun y => at2 x y
  | _, _ => none
def evPs : Es → List D → Option (List D)
  | .nil, _ => some []
  | .cons a r, rs => ob (evP a rs) fun x => ob (evPs r rs) fun xs => some (x :: xs)
end
/-- d with other items -/
def withItems : D → List D → D
  | .tup _, ys => .tup ys
  | .lst o _, ys => .lst o ys
  | d, _ => d
/-- d with its k-th item another -/
def setAt (d : D) (xs : List D) (k : Int) (c : D) : D := match ixN xs.length k with
  | some j => withItems d (xs.set j c)
  | none => d
def ixLoc (s : Nat) (k : D) (rs : List D) : Option (Res D) := match k with
  | .int k => ob rs[s]? fun d => ob (itemsOf d) fun xs => ob (atI xs k) fun c => if isFz c then some (.ok c rs) else some (.ok (fz c) (rs.set s (setAt d xs k (fz c))))
  | _ => none
def ixTmp (d k : D) (rs : List D) : Option (Res D) := match k with
  | .int k => ob (itemsOf d) fun xs => ob (atI xs k) fun c => some (.ok c rs)
  | _ => none
def cpyLoc (s : Nat) (rs : List D) : Option (Res D) := ob rs[s]? fun d => ob (itemsOf d) fun xs => if isFzs xs then some (.ok (.lst true xs) rs) else none
def cpyTmp (d : D) (rs : List D) : Option (Res D) := ob (itemsOf d) fun xs => some (.ok (.lst true xs) rs)
def asBl : D → Option Bool
  | .bl b => some b
  | _ => none
def a0 : List D → Option (Res (List Arg)) := fun rs => some (.ok [] rs)
def a1 (s : Option Nat) (ev : List D → Option (Res D)) (evs : List D → Option (Res (List Arg))) : List D → Option (Res (List Arg)) := fun rs => Res.bd (opd s (ev rs) rs) fun a rs1 => Res.bd (evs rs1) fun as rs2 => some (.ok (a :: as) rs2)
def v0 : List D → Option (Res (List D)) := fun rs => some (.ok [] rs)
def v1 (ev : List D → Option (Res D)) (evs : List D → Option (Res (List D))) : List D → Option (Res (List D)) := fun rs => Res.bd (ev rs) fun a rs1 => Res.bd (evs rs1) fun as rs2 => some (.ok (a :: as) rs2)
def chnD (p q : P2) (x y : Option D) (z : Option D) (rs : List D) : Option (Res D) := ob x fun x => ob y fun y => match d2 p x y with
  | some (.bl true) => ob z fun z => ob (scOnly (d2 q y z)) fun d => match d with
    | .bl b => some (.ok (.bl b) rs)
    | _ => none
  | some (.bl false) => some (.ok (.bl false) rs)
  | _ => none
mutual
def evE : E → Bool → List D → Option (Res D)
  | .var s, mv, rs => ob rs[s]? fun d => if isUn d then none else if mv && !isFz d then some (.ok d (rs.set s .un)) else some (.ok (fz d) (rs.set s (fz d)))
  | .con d, _, rs => some (.ok d rs)
  | .glo _ d, _, rs => some (.ok d rs)
  | .op2 p a b, _, rs => satOp (two (d2 p)) (a1 (slotOf a) (evE a false) (a1 (slotOf b) (evE b false) a0)) rs
  | .neg a, _, rs => satOp (one dNeg) (a1 (slotOf a) (evE a false) a0) rs
  | .lnot a, _, rs => Res.bd (evE a false rs) fun d rs1 => ob (asBl d) fun b => some (.ok (.bl (!b)) rs1)
  | .land as, _, rs => evAnd as rs
  | .lor as, _, rs => evOr as rs
  | .ite c a b, mv, rs => Res.bd (evE c false rs) fun d rs1 => ob (asBl d) fun k => if k then evE a mv rs1 else evE b mv rs1
  | .chn p q a b c, _, rs => chnD p q (evP a rs) (evP b rs) (evP c rs) rs
  | .fnc p as, _, rs => satOp (dF p) (evA as) rs
  | .isi a T, _, rs => satOp (one (dIs T)) (a1 (slotOf a) (evE a false) a0) rs
  | .call _ f as, _, rs => Res.bd (evA as rs) fun as rs1 => callD f as rs1
  | .tup as, mv, rs => Res.bd (evV as mv rs) fun ds rs1 => if ds.length ≤ 1000 then some (.ok (.tup ds) rs1) else none
  | .lst as, mv, rs => Res.bd (evV as mv rs) fun ds rs1 => if ds.length ≤ 1000 then some (.ok (.lst true ds) rs1) else none
  | .ix a i, _, rs => match slotOf a with
    | some s => ob rs[s]? fun d0 => if isUn d0 then none else Res.bd (evE i false rs) fun k rs1 => ixLoc s k rs1
    | none => Res.bd (evE a false rs) fun d rs1 => Res.bd (evE i false rs1) fun k rs2 => ixTmp d k rs2
  | .pk a, _, rs => ob (scOnly (evP a rs)) fun d => some (.ok d rs)
  | .cpy a, _, rs => match slotOf a with
    | some s => cpyLoc s rs
    | none => Res.bd (evE a false rs) fun d rs1 => cpyTmp d rs1
def evA : Es → List D → Option (Res (List Arg))
  | .nil, rs => a0 rs
  | .cons a r, rs => a1 (slotOf a) (evE a false) (evA r) rs
def evV : Es → Bool → List D → Option (Res (List D))
  | .nil, _, rs => v0 rs
  | .cons a r, mv, rs => v1 (evE a mv) (evV r mv) rs
def evAnd : Es → List D → Option (Res D)
  | .nil, rs => some (.ok (.bl true) rs)
  | .cons a r, rs => Res.bd (evE a false rs) fun d rs1 => ob (asBl d) fun b => if b then evAnd r rs1 else some (.ok (.bl false) rs1)
def evOr : Es → List D → Option (Res D)
  | .nil, rs => some (.ok (.bl false) rs)
  | .cons a r, rs => Res.bd (evE a false rs) fun d rs1 => ob (asBl d) fun b => if b then some (.ok (.bl true) rs1) else evOr r rs1
end
end Pv

set_option maxHeartbeats 1000000
namespace Pv
open PySem PySem.Spec PyProof.Rows L2

/-! ### where the code stands -/
structure Ce where
  N : List Str
  sc : Scope
  fn : Str → Bool
structure Good (X : Cx) (W : WX) (c : Ce) (km : Nat) : Prop where
  fine : Fine X
  tk : Takes X W
  room : Room km X.A
  N : X.N = c.N
  sc : X.env.scope = c.sc
  fn : ∀ x, c.fn x = true → X.fn x = true
/-- a look at an expression that changes nothing -/
def SatP (X : Cx) (t : TE) (ev : List D → Option D) : Prop :=
  ∀ rs d, ev rs = some d → ∀ (sg : L2.St) (G H : Hp) (ts : List D) (tv : List V) (fp : FP) (Q : VK), R X.K X.mg G H ts tv rs sg fp → (∀ v, Vw X.K X.mg H d v → Q v H) → t sg H Q
def SatPT (X : Cx) (t : TT) (ev : List D → Option D) : Prop :=
  ∀ rs d b, ev rs = some d → dT d = some b → ∀ (sg : L2.St) (G H : Hp) (ts : List D) (tv : List V) (fp : FP) (Q : Bool → Hp → Prop), R X.K X.mg G H ts tv rs sg fp → Q b H → t sg H Q
def evT (m : E) (rs : List D) : Option (Res Bool) := Res.bd (evE m false rs) fun d rs1 => ob (dT d) fun b => some (.ok b rs1)
structure SE (X : Cx) (W : WX) (e : Expr) (m : E) : Prop where
  ex : ∃ t, PE X e t ∧ (∀ mv, Sat X W t (evE m mv)) ∧ ∀ s, slotOf m = some s → t = tVar s
structure SP (X : Cx) (e : Expr) (m : E) : Prop where
  ex : ∃ t, PE X e t ∧ SatP X t (evP m)
structure ST (X : Cx) (W : WX) (e : Expr) (m : E) : Prop where
  ex : ∃ t, PT X e t ∧ SatT X W t (evT m)
structure SPT (X : Cx) (e : Expr) (m : E) : Prop where
  ex : ∃ t, PT X e t ∧ SatPT X t (evP m)
theorem ob_some {A B : Type} {r : Option A} {f : A → Option B} {b : B} (h : ob r f = some b) : ∃ a, r = some a ∧ f a = some b := by
  cases r with
  | none => cases h
  | some a => exact ⟨a, rfl, h⟩
theorem scOnly_some {r : Option D} {d : D} (h : scOnly r = some d) : r = some d ∧ isSc d = true := by
  cases r with
  | none => cases h
  | some x =>
    simp only [scOnly] at h
    split at h
    · cases h; exact ⟨rfl, by assumption⟩
    · cases h
theorem bd_some {A B : Type} {r : Option (Res A)} {f : A → List D → Option (Res B)} {b : Res B} (h : Res.bd r f = some b) : (∃ a rs, r = some (.ok a rs) ∧ f a rs = some b) ∨ ∃ x rs, r = some (.exc x rs) ∧ b = .exc x rs := by
  cases r with
  | none => cases h
  | some r =>
    cases r with
    | ok a rs => exact .inl ⟨a, rs, rfl, h⟩
    | exc x rs => cases h; exact .inr ⟨x, rs, rfl, rfl⟩

section
variable {K : Fr} {mg : Str → Option Value} {G G' H H' : Hp} {fp f1 f2 : FP} {ts : List D} {tv : List V} {rs : List D} {sg : L2.St}
theorem reps_item : ∀ {xs : List D} {vs : List V} {fp : FP} {j : Nat} {c : D}, Reps K mg G H xs vs fp → xs[j]? = some c → ∃ w f1, vs[j]? = some w ∧ Rep K mg G H c w f1 ∧ ∀ a, f1 a → fp a
  | x :: xs, v :: vs, fp, 0, c, h, e => by
    cases e
    simp only [Reps] at h
    obtain ⟨g1, g2, k1, k2, k3, k4⟩ := h
    exact ⟨v, g1, rfl, k1, fun a z => (k4 a).2 (.inl z)⟩
  | x :: xs, v :: vs, fp, j + 1, c, h, e => by
    simp only [Reps] at h
    obtain ⟨g1, g2, k1, k2, k3, k4⟩ := h
    obtain ⟨w, f1, q1, q2, q3⟩ := reps_item (j := j) k2 (by simpa using e)
    exact ⟨w, f1, by simpa using q1, q2, fun a z => (k4 a).2 (.inr (q3 a z))⟩
  | [], _, _, _, _, _, e => by simp at e
  | _ :: _, [], _, _, _, h, _ => by simp only [Reps] at h
/-- one item frozen in its place -/
theorem reps_fzItem : ∀ {xs : List D} {vs : List V} {fp : FP} {j : Nat} {c : D}, Reps K mg G H xs vs fp → xs[j]? = some c → ∃ w f1 f2, vs[j]? = some w ∧ Rep K mg G H c w f1 ∧ (∀ a, f1 a → ¬ f2 a) ∧ (∀ a, fp a ↔ (f1 a ∨ f2 a)) ∧
    ∀ G' : Hp, (∀ a o, G a = some o → G' a = some o) → (∀ a o, f1 a → H a = some o → G' a = some o) → Reps K mg G' H (xs.set j (fz c)) vs f2
  | x :: xs, v :: vs, fp, 0, c, h, e => by
    cases e
    simp only [Reps] at h
    obtain ⟨g1, g2, k1, k2, k3, k4⟩ := h
    refine ⟨v, g1, g2, rfl, k1, k3, k4, fun G' c1 c2 => ?_⟩
    simp only [List.set_cons_zero, Reps]
    exact ⟨_, g2, rep_fz c1 x c2 k1, reps_mono c1 (fun _ _ h => h) xs (fun _ _ _ h => h) k2, fun _ z => z.elim, fun a => by simp⟩
  | x :: xs, v :: vs, fp, j + 1, c, h, e => by
    simp only [Reps] at h
    obtain ⟨g1, g2, k1, k2, k3, k4⟩ := h
    obtain ⟨w, f1, f2, q1, q2, q3, q4, q5⟩ := reps_fzItem (j := j) k2 (by simpa using e)
    refine ⟨w, f1, fun a => g1 a ∨ f2 a, by simpa using q1, q2, fun a ha hb => ?_, fun a => ?_, fun G' c1 c2 => ?_⟩
    · rcases hb with hb | hb
      · exact k3 a hb ((q4 a).2 (.inl ha))
      · exact q3 a ha hb
    · rw [k4 a, q4 a]
      constructor
      · rintro (z | z | z)
        · exact .inr (.inl z)
        · exact .inl z
        · exact .inr (.inr z)
      · rintro (z | z | z)
        · exact .inr (.inl z)
        · exact .inl z
        · exact .inr (.inr z)
    · simp only [List.set_cons_succ, Reps]
      exact ⟨g1, f2, rep_mono c1 (fun _ _ h => h) x (fun _ _ _ h => h) k1, q5 G' c1 c2, fun a ha hb => k3 a ha ((q4 a).2 (.inr hb)), fun _ => Iff.rfl⟩
  | [], _, _, _, _, _, e => by simp at e
  | _ :: _, [], _, _, _, h, _ => by simp only [Reps] at h
theorem atI_ix {α : Type} {xs : List α} {k : Int} {c : α} (h : atI xs k = some c) : ∃ j, ixN xs.length k = some j ∧ xs[j]? = some c := by
  unfold atI at h
  exact Option.bind_eq_some_iff.mp h
theorem atI_of {α β : Type} {xs : List α} {ys : List β} {k : Int} {j : Nat} {c : β} (e : xs.length = ys.length) (h1 : ixN xs.length k = some j) (h2 : ys[j]? = some c) : atI ys k = some c := by
  unfold atI
  rw [← e, h1]; exact h2
/-- what a list or tuple holds -/
theorem rep_items {d : D} {v : V} {xs : List D} (h : Rep K mg G H d v fp) (hg : ∀ a o, G a = some o → H a = some o) (e : itemsOf d = some xs) : ∃ a vs f, v = .ref a ∧ (SqL K H a vs ∨ SqT K H a vs) ∧ Reps K mg G H xs vs f ∧ (∀ a, f a → fp a) ∧
    ∀ (G' : Hp) (ys : List D) (f' : FP), (∀ a o, G a = some o → G' a = some o) → Reps K mg G' H ys vs f' → (∀ a, f' a → f a) → ∃ f5 : FP, Rep K mg G' H (withItems d ys) v f5 ∧ (∀ a, f5 a → fp a) ∧ ∀ a, f5 a → f' a ∨ ¬ f a := by
  cases d with
  | tup ys =>
    cases e
    simp only [Rep] at h
    obtain ⟨a, vs, e1, h1, h2⟩ := h
    refine ⟨a, vs, fp, e1, .inr h1, h2, fun _ z => z, fun G' ys f' _ k1 k2 => ⟨f', ?_, k2, fun _ z => .inl z⟩⟩
    simp only [withItems, Rep]
    exact ⟨a, vs, e1, h1, k1⟩
  | lst o ys =>
    cases e
    cases o with
    | true =>
      simp only [Rep] at h
      obtain ⟨a, vs, fp', e1, h1, h2, h3, h4⟩ := h
      refine ⟨a, vs, fp', e1, .inl (.inl (.inl h1)), h2, fun a z => (h4 a).2 (.inr z), fun G' ys f' _ k1 k2 => ⟨fun b => b = a ∨ f' b, ?_, fun b z => (h4 b).2 (z.imp id (k2 b)), fun b z => z.elim (fun e => .inr (by rw [e]; exact h3)) .inl⟩⟩
      simp only [withItems, Rep]
      exact ⟨a, vs, f', e1, h1, k1, fun z => h3 (k2 a z), fun _ => Iff.rfl⟩
    | false =>
      simp only [Rep] at h
      obtain ⟨a, vs, e1, h1, h2, h3⟩ := h
      refine ⟨a, vs, fp, e1, .inl ?_, h2, fun _ z => z, fun G' ys f' hG k1 k2 => ⟨f', ?_, k2, fun _ z => .inl z⟩⟩
      · rcases h1 with (h1 | ⟨o, h1⟩) | h1
        · exact .inl (.inl (hg _ _ h1))
        · exact .inl (.inr ⟨o, hg _ _ h1⟩)
        · exact .inr h1
      · simp only [withItems, Rep]
        refine ⟨a, vs, e1, ?_, k1, fun b z => h3 b (k2 b z)⟩
        rcases h1 with (h1 | ⟨o, h1⟩) | h1
        · exact .inl (.inl (hG _ _ h1))
        · exact .inl (.inr ⟨o, hG _ _ h1⟩)
        · exact .inr h1
  | _ => cases e
/-- an item of what lies on top, in its place -/
theorem R.item {d c : D} {v : V} {xs : List D} {k : Int} (r : R K mg G H (d :: ts) (v :: tv) rs sg fp) (e : itemsOf d = some xs) (ek : atI xs k = some c) :
    ∃ a vs w, v = .ref a ∧ (SqL K H a vs ∨ SqT K H a vs) ∧ atI vs k = some w ∧ ∃ fp', R K mg G H (c :: ts) (w :: tv) rs sg fp' ∧ Step K G H fp G H fp' := by
  obtain ⟨j, hj, ej⟩ := atI_ix ek
  obtain ⟨f1, f2, h1, r2, dj, e2⟩ := r.top
  obtain ⟨a, vs, f3, ev, hs, hr, hf, _⟩ := rep_items h1 (fun a o h => (r.sub a o h).1) e
  obtain ⟨w, f4, q1, q2, q3⟩ := reps_item hr ej
  refine ⟨a, vs, w, ev, hs, atI_of (reps_len hr) hj q1, _, r2.push q2 (fun a ha => dj a (hf a (q3 a ha))) (fun a o h z => (r.sub a o h).2 ((e2 a).2 (.inl (hf a (q3 a z))))), .less fun a z => ?_⟩
  rcases z with z | z
  · exact (e2 a).2 (.inl (hf a (q3 a z)))
  · exact (e2 a).2 (.inr z)
/-- .. and the one that is looked at is frozen there -/
theorem R.fzItem {d c : D} {v : V} {xs : List D} {k : Int} (r : R K mg G H (d :: ts) (v :: tv) rs sg fp) (e : itemsOf d = some xs) (ek : atI xs k = some c) :
    ∃ a vs w, v = .ref a ∧ (SqL K H a vs ∨ SqT K H a vs) ∧ atI vs k = some w ∧ ∃ G' fp', R K mg G' H (Pv.fz c :: setAt d xs k (Pv.fz c) :: ts) (w :: v :: tv) rs sg fp' ∧ Step K G H fp G' H fp' := by
  obtain ⟨j, hj, hc⟩ := atI_ix ek
  obtain ⟨f1, f2, h1, r2, dj, e2⟩ := r.top
  have gh : ∀ a o, G a = some o → H a = some o := fun a o h => (r.sub a o h).1
  obtain ⟨a, vs, f3, ev, hs, hr, hf, mk⟩ := rep_items h1 gh e
  obtain ⟨w, g1, g2, q1, q2, q3, q4, q5⟩ := reps_fzItem hr hc
  obtain ⟨G', c1, c2, c3⟩ := wider G H g1
  have le1 : ∀ a, g1 a → f1 a := fun a z => hf a ((q4 a).2 (.inl z))
  have cG : ∀ a o, G a = some o → G' a = some o := fun a o h => c1 a o h fun z => (r.sub a o h).2 ((e2 a).2 (.inl (le1 a z)))
  obtain ⟨f5, k1, k2, k3⟩ := mk G' _ g2 cG (q5 G' cG c2) fun a z => (q4 a).2 (.inr z)
  have n5 : ∀ a, f5 a → ¬ g1 a := fun a z y => by
    rcases k3 a z with p | p
    · exact q3 a y p
    · exact p ((q4 a).2 (.inl y))
  have hG' : ∀ a o, G' a = some o → H a = some o ∧ ¬ f2 a ∧ ¬ f5 a := fun a o h => by
    rcases c3 a o h with ⟨z, y⟩ | ⟨z, y⟩
    · have s := (r.sub a o z).2
      exact ⟨gh a o z, fun p => s ((e2 a).2 (.inr p)), fun p => s ((e2 a).2 (.inl (k2 a p)))⟩
    · exact ⟨y, fun p => dj a (le1 a z) p, fun p => n5 a p z⟩
  have r3 := R.toG (G' := G') (H' := H) r2 cG (fun _ _ h => h) (fun _ _ _ h => h) (fun a o h => (hG' a o h).1) fun a o h => (hG' a o h).2.1
  have r4 := r3.push k1 (fun a ha hb => dj a (k2 a ha) hb) fun a o h => (hG' a o h).2.2
  have es : setAt d xs k (Pv.fz c) = withItems d (xs.set j (Pv.fz c)) := by simp only [setAt, hj]
  rw [es]
  refine ⟨a, vs, w, ev, hs, atI_of (reps_len hr) hj q1, G', _, r4.pushE (rep_fz cG c c2 q2), ⟨fun _ _ h _ => h, fun _ _ h => h, fun a z => .inr ?_, cG, fun a o h => ?_⟩⟩
  · rcases z with z | z
    · exact (e2 a).2 (.inl (k2 a z))
    · exact (e2 a).2 (.inr z)
  · rcases c3 a o h with ⟨z, _⟩ | ⟨z, _⟩
    · exact .inl z
    · exact .inr (.inr ((e2 a).2 (.inl (le1 a z))))
end
end Pv

set_option maxHeartbeats 2000000
namespace Pv
open PySem PySem.Spec PyProof.Rows L2

section
variable {X : Cx} {W : WX} {c : Ce} {km : Nat}
theorem vw_slot {G H : Hp} {ts : List D} {tv : List V} {rs : List D} {sg : L2.St} {fp : FP} {s : Nat} {d : D} (hR : R X.K X.mg G H ts tv rs sg fp) (e : rs[s]? = some d) (u : isUn d = false) : ∃ v, sg[s]? = some (some v) ∧ Vw X.K X.mg H (fz d) v := by
  obtain ⟨v, hv⟩ := hR.val e (by intro z; rw [z] at u; cases u)
  exact ⟨v, hv, hR.view e hv⟩
theorem satP_var {s : Nat} : SatP X (tVar s) (evP (.var s)) := by
  intro rs d e sg G H ts tv fp Q hR h
  simp only [evP] at e
  split at e
  · rename_i d' q
    split at e
    · cases e
    · rename_i u
      cases e
      obtain ⟨v, hv, w⟩ := vw_slot hR q (by simpa using u)
      exact ⟨v, hv, h v w⟩
  · cases e
theorem sat_var {s : Nat} (mv : Bool) : Sat X W (tVar s) (evE (.var s) mv) := by
  intro rs r e sg G H ts tv fp Q hR h1 h2
  simp only [evE] at e
  obtain ⟨d, q, e⟩ := ob_some e
  split at e
  · cases e
  · rename_i u
    obtain ⟨v, hv⟩ := hR.val q (by intro z; rw [z] at u; exact u rfl)
    split at e
    · cases e
      exact ⟨v, hv, h1 d _ rfl v G H fp .refl (hR.take q hv)⟩
    · cases e
      obtain ⟨G', f', r', st⟩ := hR.slotFz q hv
      exact ⟨v, hv, h1 _ _ rfl v G' H f' st r'⟩
theorem sat_push {t : TE} {d : D} {v : V} (hr : ∀ G H, Rep X.K X.mg G H d v (fun _ => False)) (ht : ∀ sg H Q, Q v H → t sg H Q) : Sat X W t (fun rs => some (.ok d rs)) := by
  intro rs r e sg G H ts tv fp Q hR h1 h2
  cases e
  exact ht _ _ _ (h1 d rs rfl v G H fp .refl (hR.pushE (hr G H)))
theorem satP_push {t : TE} {d : D} {v : V} (hr : ∀ G H, Rep X.K X.mg G H d v (fun _ => False)) (ht : ∀ sg H Q, Q v H → t sg H Q) : SatP X t (fun _ => some d) := by
  intro rs r e sg G H ts tv fp Q hR h
  cases e
  exact ht _ _ _ (h v (hr H H))
/-- the operators' reading -/
def rD2 (X : Cx) (p : P2) : R2 := fun x y H Q => ∃ a b d, Vw X.K X.mg H a x ∧ Vw X.K X.mg H b y ∧ d2 p a b = some d ∧ ∀ v, isSc d = true → Vw X.K X.mg H d v → Q v H
theorem satP_op2 {p : P2} {ta tb : TE} {a b : E} (ha : SatP X ta (evP a)) (hb : SatP X tb (evP b)) : SatP X (tOp (rD2 X p) ta tb) (evP (.op2 p a b)) := by
  intro rs d e sg G H ts tv fp Q hR h
  simp only [evP] at e
  obtain ⟨x, ex, e⟩ := ob_some e
  obtain ⟨y, ey, e⟩ := ob_some e
  obtain ⟨e, hs⟩ := scOnly_some e
  exact ha rs x ex sg G H ts tv fp _ hR fun v hv => hb rs y ey sg G H ts tv fp _ hR fun w hw => ⟨x, y, d, hv, hw, e, fun z _ hz => h z hz⟩
/-- an operand as it stands in its slot, or reckoned -/
def Opd (X : Cx) (W : WX) (t : TE) (m : E) : Prop := match slotOf m with
  | some s => t = tVar s
  | none => Sat X W t (evE m false)
theorem SE.opd {e : Expr} {m : E} (h : SE X W e m) : ∃ t, PE X e t ∧ Opd X W t m := by
  obtain ⟨t, h1, h2, h3⟩ := h.ex
  refine ⟨t, h1, ?_⟩
  unfold Opd
  cases q : slotOf m with
  | none => exact h2 false
  | some s => exact h3 s q
theorem sat_op2 {p : P2} {ta tb : TE} {a b : E} (ha : Opd X W ta a) (hb : Opd X W tb b) : Sat X W (tOp (rD2 X p) ta tb) (satOp (two (d2 p)) (a1 (slotOf a) (evE a false) (a1 (slotOf b) (evE b false) a0))) := by
  refine sat_op (fun Q vs H => match vs with
    | [x, y] => rD2 X p x y H Q
    | _ => False) (satA_cons ha (satA_cons hb satA_nil)) (fun Q vs H h => ?_) fun sg H Q h => h
  obtain ⟨ds, d, hv, e, hs, q⟩ := h
  match ds, hv, e with
  | [a, b], hv, e =>
    obtain ⟨v, w, rfl, h1, h2⟩ := vws2 hv
    exact ⟨a, b, d, h1, h2, e, fun v _ hv => q v hv⟩
def rNeg (X : Cx) : V → Hp → VK → Prop := fun x H Q => ∃ i, x = .int i ∧ Q (.int (-i)) H
theorem sat_neg {ta : TE} {a : E} (ha : Opd X W ta a) : Sat X W (tUn (rNeg X) ta) (satOp (one dNeg) (a1 (slotOf a) (evE a false) a0)) := by
  refine sat_op (fun Q vs H => match vs with
    | [x] => rNeg X x H Q
    | _ => False) (satA_cons ha satA_nil) (fun Q vs H h => ?_) fun sg H Q h => h
  obtain ⟨ds, d, hv, e, hs, q⟩ := h
  match ds, hv, e with
  | [x], hv, e =>
    obtain ⟨v, rfl, h1⟩ := vws1 hv
    cases x with
    | int i =>
      cases e
      exact ⟨i, vw_int h1, q _ rep_int⟩
    | _ => cases e
theorem satP_neg {ta : TE} {a : E} (ha : SatP X ta (evP a)) : SatP X (tUn (rNeg X) ta) (evP (.neg a)) := by
  intro rs d e sg G H ts tv fp Q hR h
  simp only [evP] at e
  obtain ⟨x, ex, e⟩ := ob_some e
  cases x with
  | int i =>
    cases e
    exact ha rs _ ex sg G H ts tv fp _ hR fun v hv => ⟨i, vw_int hv, h _ rep_int⟩
  | _ => cases e
theorem pe_neg {e : Expr} {ta : TE} {pos : Pos} (ha : PE X e ta) : PE X (.UnaryOp .USub e pos) (tUn (rNeg X) ta) := pe_un un_neg ha
/-- a value, of which a bool is wanted -/
theorem sat_bl {t : TE} {u : TE} {ev : List D → Option (Res D)} {f : Bool → D} (h : Sat X W t ev) (hf : ∀ b, isSc (f b) = true) (vf : Bool → V) (hv : ∀ b G H, Rep X.K X.mg G H (f b) (vf b) (fun _ => False))
    (hu : ∀ sg H Q, t sg H (fun x H1 => ∃ k, x = .bl k ∧ Q (vf k) H1) → u sg H Q) : Sat X W u (fun rs => Res.bd (ev rs) fun d rs1 => ob (asBl d) fun b => some (.ok (f b) rs1)) := by
  intro rs r e sg G H ts tv fp Q hR h1 h2
  refine hu sg H Q ?_
  rcases bd_some e with ⟨d, rs1, q, e⟩ | ⟨x, rs1, q, e⟩
  · obtain ⟨b, eb, e⟩ := ob_some e
    cases e
    refine h rs _ q sg G H ts tv fp _ hR (fun d' rs' er v G' H' f' st r' => ?_) (fun x rs' er => by cases er)
    cases er
    cases d with
    | bl b' =>
      have eb : b' = b := Option.some.inj eb
      subst eb
      obtain ⟨f2, r2, st2⟩ := r'.drop
      refine ⟨b', vw_bl r'.viewT, h1 _ _ rfl _ _ _ _ (st.trans st2) (r2.pushE (hv b' G' H'))⟩
    | _ => cases eb
  · subst e
    exact h rs _ q sg G H ts tv fp _ hR (fun d' rs' er => by cases er) (fun x' rs' er => by cases er; exact h2 _ _ rfl)
theorem dT_fz (d : D) : dT (fz d) = dT d := by
  cases d with
  | tup xs => cases xs <;> rfl
  | lst o xs => cases xs <;> rfl
  | _ => rfl
/-- a pure one, kept if it has no lists -/
theorem sat_pk {t : TE} {a : E} (h : SatP X t (evP a)) (mv : Bool) : Sat X W t (evE (.pk a) mv) := by
  intro rs r e sg G H ts tv fp Q hR h1 h2
  simp only [evE] at e
  obtain ⟨d, q, e⟩ := ob_some e
  obtain ⟨q, hs⟩ := scOnly_some q
  cases e
  exact h rs d q sg G H ts tv fp Q hR fun v hv => h1 d rs rfl v G H fp .refl (hR.pushE (sc_any hs hv))
theorem satPT_of {t : TE} {a : E} (h : SatP X t (evP a)) : SatPT X (fun sg H Q => t sg H fun x H' => ∃ k, TruV X.K x H' k ∧ Q k H') (evP a) := by
  intro rs d b e eb sg G H ts tv fp Q hR q
  exact h rs d e sg G H ts tv fp _ hR fun v hv => ⟨b, doesT hv eb, q⟩
theorem satT_of {t : TE} {a : E} (h : Sat X W t (evE a false)) : SatT X W (fun sg H Q => t sg H fun x H' => ∃ k, TruV X.K x H' k ∧ Q k H') (evT a) := by
  intro rs r e sg G H ts tv fp Q hR h1 h2
  unfold evT at e
  rcases bd_some e with ⟨d, rs1, q, e⟩ | ⟨x, rs1, q, e⟩
  · obtain ⟨b, eb, e⟩ := ob_some e
    cases e
    refine h rs _ q sg G H ts tv fp _ hR (fun d' rs' er v G' H' f' st r' => ?_) (fun x rs' er => by cases er)
    cases er
    obtain ⟨f2, r2, st2⟩ := r'.drop
    have tv := doesT (X := X) (b := b) r'.viewT (by rw [dT_fz]; exact eb)
    exact ⟨b, tv, h1 _ _ rfl _ _ _ (st.trans st2) r2⟩
  · subst e
    exact h rs _ q sg G H ts tv fp _ hR (fun d' rs' er => by cases er) (fun x' rs' er => by cases er; exact h2 _ _ rfl)
/-- a pure test -/
theorem satT_pk {t : TT} {a : E} (h : SatPT X t (evP a)) : SatT X W t (evT (.pk a)) := by
  intro rs r e sg G H ts tv fp Q hR h1 h2
  unfold evT at e
  simp only [evE] at e
  rcases bd_some e with ⟨d, rs1, q, e⟩ | ⟨x, rs1, q, e⟩
  · obtain ⟨b, eb, e⟩ := ob_some e
    cases e
    obtain ⟨d', q', q⟩ := ob_some q
    cases q
    obtain ⟨q', hs⟩ := scOnly_some q'
    exact h rs d b q' eb sg G H ts tv fp Q hR (h1 b _ rfl G H fp .refl hR)
  · obtain ⟨d', q', q⟩ := ob_some q
    cases q

/-! ### the text against the language -/
def visB (sc : Scope) (x : Str) : Bool := (match sc.names.lookup x with
  | some .local => true
  | some .cell => true
  | some .free => true
  | _ => false) && (x != ("__debug__" : Str)) && (x != ("__classdict__" : Str))
def glB (sc : Scope) (x : Str) : Bool := (match sc.names.lookup x with
  | some .globalImplicit => true
  | _ => false) && (x != ("__debug__" : Str)) && (x != ("__name__" : Str))
def conB : D → Const → Bool
  | .non, .none => true
  | .bl b, .bool c => b == c
  | .int i, .int j => decide (i = j)
  | .str x, .str y => decide (x = y)
  | _, _ => false
def binB : P2 → Operator → Bool
  | .add, .Add => true
  | .sub, .Sub => true
  | .mul, .Mult => true
  | .fdiv, .FloorDiv => true
  | .mod, .Mod => true
  | .pow, .Pow => true
  | _, _ => false
def cmpB : P2 → CmpOp → Bool
  | .lt, .Lt => true
  | .le, .LtE => true
  | .gt, .Gt => true
  | .ge, .GtE => true
  | .eq, .Eq => true
  | .ne, .NotEq => true
  | .isn, .Is => true
  | .notn, .IsNot => true
  | _, _ => false
def nst : Expr → Bool
  | .Starred _ _ => false
  | _ => true
def nsl : Expr → Bool
  | .Slice _ _ _ _ => false
  | _ => true
def nempty {A : Type} : List A → Bool
  | [] => false
  | _ => true
def tyOkB (T : String) : Bool := ["int", "bool", "str", "list", "tuple"].contains T
mutual
/-- may stand as a test -/
def tok : E → Bool
  | .ite _ _ _ => false
  | .lnot a => tok a
  | .land as => toks as
  | .lor as => toks as
  | .pk a => pok a
  | _ => true
def toks : Es → Bool
  | .nil => true
  | .cons a r => tok a && toks r
/-- a look that may stand as a test -/
def pok : E → Bool
  | .var _ => true
  | .con _ => true
  | .glo _ _ => true
  | .op2 _ _ _ => true
  | .neg _ => true
  | .fnc _ _ => true
  | .isi _ _ => true
  | .ix _ _ => true
  | _ => false
end
mutual
def chkE (c : Ce) : E → Expr → Bool
  | .var i, .Name x _ => decide (c.N[i]? = some x) && visB c.sc x
  | .con d, .Constant k _ _ => conB d k
  | .glo x _, .Name y _ => decide (x = y) && glB c.sc x
  | .op2 p a b, .BinOp l o r _ => binB p o && (chkE c a l && chkE c b r)
  | .op2 p a b, .Compare l [o] [r] _ => cmpB p o && (chkE c a l && chkE c b r)
  | .neg a, .UnaryOp .USub x _ => chkE c a x
  | .lnot a, .UnaryOp .Not x _ => chkE c a x
  | .land as, .BoolOp .And es _ => nempty es && chkL c as es
  | .lor as, .BoolOp .Or es _ => nempty es && chkL c as es
  | .ite t a b, .IfExp x y z _ => (tok t && chkE c t x) && (chkE c a y && chkE c b z)
  | .chn p q a b d, .Compare l [o1, o2] [m, r] _ => (cmpB p o1 && cmpB q o2) && (chkE c a l && (chkE c b m && chkE c d r))
  | .fnc p as, .Call (.Name x _) es [] _ => (decide (x = fnN p) && glB c.sc x) && (nempty es && chkL c as es)
  | .isi a T, .Call (.Name x _) [e, .Name y _] [] _ => ((decide (x = ("isinstance" : Str)) && glB c.sc x) && ((decide (y = Str.ofString T) && glB c.sc y) && tyOkB T)) && (nst e && chkE c a e)
  | .call f _ as, .Call (.Name x _) es [] _ => (decide (x = f) && glB c.sc x) && (nempty es && chkL c as es)
  | .tup as, .Tuple es _ _ => chkL c as es
  | .lst as, .List es _ => chkL c as es
  | .ix a i, .Subscript e s _ => nsl s && (chkE c a e && chkE c i s)
  | .pk a, e => chkE c a e
  | .cpy a, .Call (.Name x _) [e] [] _ => (decide (x = ("list" : Str)) && glB c.sc x) && (nst e && chkE c a e)
  | _, _ => false
def chkL (c : Ce) : Es → List Expr → Bool
  | .nil, [] => true
  | .cons a r, e :: es => nst e && (chkE c a e && chkL c r es)
  | _, _ => false
end
/-! ### what the text leans on -/
/-- the program at large: what a text leans on -/
structure Gv where
  prog : Program
  w : World
  K : Fr
  mg : Str → Option Value
  base : Heap
abbrev gvOf (X : Cx) : Gv := ⟨X.prog, X.w, X.K, X.mg, X.base⟩
structure FnHas (X : Gv) (km : Nat) (x : Str) (f : Fn) : Prop where
  ex : ∃ (k : Nat) (a : Addr) (fd : FuncData) (ps : List Str), k ≤ km ∧ X.mg x = some (.ref a) ∧ PySem.W.keepIn X.K (.ref a) = true ∧ FnOk X.prog X.w X.K X.mg X.base (L2.CX X.prog X.w) k a fd ps (spOf X.K X.mg f) ∧ Binds X.K fd ps []
structure GlHas (X : Gv) (x : Str) (d : D) : Prop where
  ex : ∃ v u, X.mg x = some u ∧ RelV v u ∧ ∀ G H, Rep X.K X.mg G H d v (fun _ => False)
def PfHas (X : Gv) : PF → Prop
  | .gcd => X.mg "gcd" = some (.builtin "math.gcd")
  | p => X.mg (fnN p) = none
mutual
def OkE (X : Gv) (km : Nat) : E → Prop
  | .glo x d => GlHas X x d
  | .op2 _ a b => OkE X km a ∧ OkE X km b
  | .neg a => OkE X km a
  | .lnot a => OkE X km a
  | .land as => OkL X km as
  | .lor as => OkL X km as
  | .ite t a b => OkE X km t ∧ OkE X km a ∧ OkE X km b
  | .chn _ _ a b d => OkE X km a ∧ OkE X km b ∧ OkE X km d
  | .fnc p as => PfHas X p ∧ OkL X km as
  | .isi a T => (X.mg "isinstance" = none ∧ X.mg (Str.ofString T) = none) ∧ OkE X km a
  | .call x f as => FnHas X km x f ∧ OkL X km as
  | .tup as => OkL X km as
  | .lst as => OkL X km as
  | .ix a i => OkE X km a ∧ OkE X km i
  | .pk a => OkE X km a
  | .cpy a => X.mg "list" = none ∧ OkE X km a
  | _ => True
def OkL (X : Gv) (km : Nat) : Es → Prop
  | .nil => True
  | .cons a r => OkE X km a ∧ OkL X km r
end
end
end Pv

set_option maxHeartbeats 2000000
namespace Pv
open PySem PySem.Spec PyProof.Rows L2

section
variable {X : Cx} {W : WX} {c : Ce} {km : Nat}
theorem star_nst {e : Expr} (h : nst e = true) (r : List Expr) (env : Env) : starEach (e :: r) env = (false, eval e env) :: starEach r env := by
  cases e <;> first | rfl | (cases h)
theorem back_nst : ∀ {es : List Expr} (h : ∀ e ∈ es, nst e = true) (pos : Pos) (env : Env), (backTo pos (starEach es env)).any (·.1) = false
  | [], _, _, _ => rfl
  | e :: es, h, pos, env => by
    rw [star_nst (h e List.mem_cons_self)]
    show (false || (backTo pos (starEach es env)).any (·.1)) = false
    rw [back_nst (fun e he => h e (List.mem_cons_of_mem _ he))]; rfl
theorem plain_nsl {e : Expr} (h : nsl e = true) : PlainIx e := fun o i => by
  cases e <;> first | rfl | (cases h)
theorem pa_of {es : List Expr} {tes : List TE} (h : PEs X es tes) (hn : ∀ e ∈ es, nst e = true) : PA X es (runs tes) := pa_runs h fun e he r => star_nst (hn e he) r X.env
theorem PEs.one {e : Expr} {t : TE} (h : PE X e t) : PEs X [e] [t] := .cons h .nil

theorem vis_of {sc : Scope} {x : Str} (h : visB sc x = true) : (sc.names.lookup x = some .local ∨ sc.names.lookup x = some .cell ∨ sc.names.lookup x = some .free) ∧ (x == ("__debug__" : Str)) = false ∧ (x == ("__classdict__" : Str)) = false := by
  unfold visB at h
  rw [Bool.and_eq_true, Bool.and_eq_true] at h
  obtain ⟨⟨h1, h2⟩, h3⟩ := h
  refine ⟨?_, by simpa using h2, by simpa using h3⟩
  split at h1 <;> first | exact .inl (by assumption) | exact .inr (.inl (by assumption)) | exact .inr (.inr (by assumption)) | cases h1
theorem gl_of {sc : Scope} {x : Str} (h : glB sc x = true) : sc.names.lookup x = some .globalImplicit ∧ (x == ("__debug__" : Str)) = false ∧ x ≠ "__name__" := by
  unfold glB at h
  rw [Bool.and_eq_true, Bool.and_eq_true] at h
  obtain ⟨⟨h1, h2⟩, h3⟩ := h
  refine ⟨?_, by simpa using h2, by simpa using h3⟩
  split at h1
  · assumption
  · cases h1
theorem Good.gl (g : Good X W c km) {x : Str} (h : glB c.sc x = true) : Gl X x ∧ (x == ("__debug__" : Str)) = false ∧ x ≠ "__name__" := by
  obtain ⟨h1, h2, h3⟩ := gl_of h
  refine ⟨?_, h2, h3⟩
  show X.env.scope.names.lookup x = some .globalImplicit
  rw [g.sc]; exact h1
theorem Good.pv (g : Good X W c km) {x : Str} {i : Nat} {pos : Pos} (h : (decide (c.N[i]? = some x) && visB c.sc x) = true) : PE X (.Name x pos) (tVar i) := by
  rw [Bool.and_eq_true] at h
  obtain ⟨h1, h2, h3⟩ := vis_of h.2
  refine pe_var (by rw [g.N]; exact of_decide_eq_true h.1) ?_ h2 h3
  show X.env.scope.names.lookup x = _ ∨ _ ∨ _
  rw [g.sc]; exact h1
/-- a constant -/
theorem con_of {d : D} {k : Const} (h : conB d k = true) {n : Nat} {pos : Pos} : ∃ (t : TE) (v : V), PE X (.Constant k n pos) t ∧ (∀ G H, Rep X.K X.mg G H d v (fun _ => False)) ∧ ∀ sg H Q, Q v H → t sg H Q := by
  cases d with
  | non => cases k <;> first | (cases h; done) | exact ⟨_, .non, pe_non, fun _ _ => rep_non, fun _ _ _ q => q⟩
  | bl b => cases k <;> first | (cases h; done) | skip
            rename_i b'
            have e : b = b' := eq_of_beq h
            subst e
            exact ⟨_, .bl b, pe_bl, fun _ _ => rep_bl, fun _ _ _ q => q⟩
  | int b => cases k <;> first | (cases h; done) | skip
             rename_i b'
             have e : b = b' := of_decide_eq_true h
             subst e
             exact ⟨_, .int b, pe_int, fun _ _ => rep_int, fun _ _ _ q => q⟩
  | str b => cases k <;> first | (cases h; done) | skip
             rename_i b'
             have e : b = b' := of_decide_eq_true h
             subst e
             exact ⟨_, .str b, pe_str, fun _ _ => rep_str, fun _ _ _ q => q⟩
  | _ => cases h
/-- the operator of the text -/
theorem bin_of {p : P2} {o : Operator} (h : binB p o = true) : opF p = binaryOp o := by
  cases p <;> cases o <;> first | (cases h; done) | rfl
theorem cmp_of {p : P2} {o : CmpOp} (h : cmpB p o = true) : opF p = compareOp o ∧ o ≠ .In ∧ o ≠ .NotIn := by
  cases p <;> cases o <;> first | (cases h; done) | exact ⟨rfl, by decide, by decide⟩
theorem cmp_bl {p : P2} {o : CmpOp} (h : cmpB p o = true) {x y d : D} (e : d2 p x y = some d) : ∃ b, d = .bl b := by
  cases p <;> cases o <;> first | (cases h; done) | skip
  all_goals (unfold d2 at e; split at e <;> first | (cases e; exact ⟨_, rfl⟩) | (obtain ⟨k, _, e⟩ := Option.map_eq_some_iff.mp e; cases e; exact ⟨_, rfl⟩) | contradiction)
theorem doesR (F : Fine X) (p : P2) : OpR X (opF p) (rD2 X p) := does2 F X.mg p
theorem pe_bin (F : Fine X) {p : P2} {o : Operator} (h : binB p o = true) {a b : Expr} {ta tb : TE} {pos : Pos} (ha : PE X a ta) (hb : PE X b tb) : PE X (.BinOp a o b pos) (tOp (rD2 X p) ta tb) :=
  pe_op (by rw [← bin_of h]; exact doesR F p) ha hb
theorem pe_cmp2 (F : Fine X) {p : P2} {o : CmpOp} (h : cmpB p o = true) {a b : Expr} {ta tb : TE} {pos : Pos} (ha : PE X a ta) (hb : PE X b tb) : PE X (.Compare a [o] [b] pos) (tOp (rD2 X p) ta tb) :=
  pe_cmpR (by rw [← (cmp_of h).1]; exact doesR F p) ha hb (nomark b (cmp_of h).2.1 (cmp_of h).2.2)
theorem pt_cmp2 (F : Fine X) {p : P2} {o : CmpOp} (h : cmpB p o = true) {a b : Expr} {ta tb : TE} {pos : Pos} (ha : PE X a ta) (hb : PE X b tb) : PT X (.Compare a [o] [b] pos) (tTest (tOp (rD2 X p) ta tb)) :=
  pt_cmpR (by rw [← (cmp_of h).1]; exact doesR F p) ha hb (nomark b (cmp_of h).2.1 (cmp_of h).2.2)
/-- a test of what gives a bool -/
theorem satT_bl {t : TE} {m : E} (h : Sat X W t (evE m false)) (hb : ∀ rs d rs', evE m false rs = some (.ok d rs') → ∃ b, d = .bl b) : SatT X W (tTest t) (evT m) := by
  intro rs r e sg G H ts tv fp Q hR h1 h2
  unfold evT at e
  rcases bd_some e with ⟨d, rs1, q, e⟩ | ⟨x, rs1, q, e⟩
  · obtain ⟨b, eb, e⟩ := ob_some e
    cases e
    refine h rs _ q sg G H ts tv fp _ hR (fun d' rs' er v G' H' f' st r' => ?_) (fun x rs' er => by cases er)
    cases er
    obtain ⟨b', rfl⟩ := hb rs d rs1 q
    have eb : b' = b := Option.some.inj eb
    subst eb
    obtain ⟨f2, r2, st2⟩ := r'.drop
    exact ⟨b', vw_bl r'.viewT, h1 _ _ rfl _ _ _ (st.trans st2) r2⟩
  · subst e
    exact h rs _ q sg G H ts tv fp _ hR (fun d' rs' er => by cases er) (fun x' rs' er => by cases er; exact h2 _ _ rfl)
theorem satPT_bl {t : TE} {m : E} (h : SatP X t (evP m)) (hb : ∀ rs d, evP m rs = some d → ∃ b, d = .bl b) : SatPT X (tTest t) (evP m) := by
  intro rs d b e eb sg G H ts tv fp Q hR q
  refine h rs d e sg G H ts tv fp _ hR fun v hv => ?_
  obtain ⟨b', rfl⟩ := hb rs d e
  have eb : b' = b := Option.some.inj eb
  subst eb
  exact ⟨b', vw_bl hv, q⟩
theorem satOp_inv {dl : List D → Option D} {ev : List D → Option (Res (List Arg))} {rs rs' : List D} {d : D} (h : satOp dl ev rs = some (.ok d rs')) : ∃ ds, dl ds = some d ∧ isSc d = true := by
  unfold satOp at h
  rcases bd_some h with ⟨as, rs1, q, h⟩ | ⟨x, rs1, q, h⟩
  · split at h
    · rename_i d' q'
      split at h
      · cases h; exact ⟨_, q', by assumption⟩
      · cases h
    · cases h
  · cases h
/-! ### a built-in function -/
def rF (X : Cx) (p : PF) : List V → Hp → VK → Prop := fun vs H Q => ∃ ds d, Vws X.K X.mg H ds vs ∧ dF p ds = some d ∧ ∀ v, isSc d = true → Vw X.K X.mg H d v → Q v H
theorem sat_fnc {p : PF} {tes : List TE} {as : Es} (h : SatA X W tes (evA as)) : Sat X W (tCB (rF X p) (runs tes)) (satOp (dF p) (evA as)) :=
  sat_op (fun Q vs H => rF X p vs H Q) h (fun Q vs H ⟨ds, d, hv, e, hs, q⟩ => ⟨ds, d, hv, e, fun v _ hv => q v hv⟩) fun sg H Q h => h
theorem boot_pf {p : PF} (h : p ≠ .gcd) : bootBuiltins (fnN p) = some (fnV p) := by
  cases p <;> first | decide +kernel | exact absurd rfl h
theorem pe_fncB (F : Fine X) {p : PF} {id : String} (ei : fnV p = .builtin id) (hm : X.mg (fnN p) = none) (hb : bootBuiltins (fnN p) = some (fnV p)) (hg : Gl X (fnN p)) (hn : fnN p ≠ "__name__") (hd : (fnN p == ("__debug__" : Str)) = false) {e : Expr} {es : List Expr} {tes : List TE} {q pos : Pos} (h : PEs X (e :: es) tes) (hs : ∀ x ∈ e :: es, nst x = true) :
    PE X (.Call (.Name (fnN p) q) (e :: es) [] pos) (tCB (rF X p) (runs tes)) := by
  have hc : CallR X (fnV p) (rF X p) := doesF F X.mg p
  rw [ei] at hc hb
  exact pe_callB hc hg hm hb (pa_of h hs) hn hd (star_nst (hs e List.mem_cons_self) es X.env) (back_nst (fun e he => hs e (List.mem_cons_of_mem _ he)) pos X.env)
theorem pe_fncT (F : Fine X) {p : PF} {id : String} (ei : fnV p = .type id) (hm : X.mg (fnN p) = none) (hb : bootBuiltins (fnN p) = some (fnV p)) (hg : Gl X (fnN p)) (hn : fnN p ≠ "__name__") (hd : (fnN p == ("__debug__" : Str)) = false) {e : Expr} {es : List Expr} {tes : List TE} {q pos : Pos} (h : PEs X (e :: es) tes) (hs : ∀ x ∈ e :: es, nst x = true) :
    PE X (.Call (.Name (fnN p) q) (e :: es) [] pos) (tCB (rF X p) (runs tes)) := by
  have hc : CallR X (fnV p) (rF X p) := doesF F X.mg p
  rw [ei] at hc hb
  exact pe_callTy hc hg hm hb (pa_of h hs) hn hd (star_nst (hs e List.mem_cons_self) es X.env) (back_nst (fun e he => hs e (List.mem_cons_of_mem _ he)) pos X.env)
theorem pe_fncG (F : Fine X) {p : PF} {id : String} (ei : fnV p = .builtin id) (hm : X.mg (fnN p) = some (.builtin id)) (hg : Gl X (fnN p)) (hd : (fnN p == ("__debug__" : Str)) = false) {e : Expr} {es : List Expr} {tes : List TE} {q pos : Pos} (h : PEs X (e :: es) tes) (hs : ∀ x ∈ e :: es, nst x = true) :
    PE X (.Call (.Name (fnN p) q) (e :: es) [] pos) (tCB (rF X p) (runs tes)) := by
  have hc : CallR X (fnV p) (rF X p) := doesF F X.mg p
  rw [ei] at hc
  exact pe_callBfun hc hg hm (pa_of h hs) hd (star_nst (hs e List.mem_cons_self) es X.env) (back_nst (fun e he => hs e (List.mem_cons_of_mem _ he)) pos X.env)
theorem pf_kind (p : PF) : (p = .gcd) ∨ (p = .int) ∨ (p ≠ .gcd ∧ ∃ id, fnV p = .builtin id ∧ (PfHas (gvOf X) p → X.mg (fnN p) = none)) := by
  cases p <;> first | exact .inl rfl | exact .inr (.inl rfl) | exact .inr (.inr ⟨by decide, _, rfl, id⟩)
theorem pe_fnc (F : Fine X) {p : PF} (hp : PfHas (gvOf X) p) {x : Str} (hx : x = fnN p) (hg : Gl X x) (hn : x ≠ "__name__") (hd : (x == ("__debug__" : Str)) = false) {es : List Expr} {tes : List TE} {q pos : Pos} (hne : nempty es = true) (h : PEs X es tes) (hs : ∀ e ∈ es, nst e = true) :
    PE X (.Call (.Name x q) es [] pos) (tCB (rF X p) (runs tes)) := by
  cases es with
  | nil => cases hne
  | cons e es =>
    subst hx
    rcases pf_kind (X := X) p with e1 | e1 | ⟨hne, id, e1, e2⟩
    · subst e1
      exact pe_fncG F (p := .gcd) (id := "math.gcd") rfl hp hg hd h hs
    · subst e1
      exact pe_fncT F (p := .int) (id := "int") rfl hp (boot_pf (by decide)) hg hn hd h hs
    · exact pe_fncB F e1 (e2 hp) (boot_pf hne) hg hn hd h hs
def SatPs (X : Cx) (tes : List TE) (ev : List D → Option (List D)) : Prop :=
  ∀ rs ds, ev rs = some ds → ∀ (sg : L2.St) (G H : Hp) (ts : List D) (tv : List V) (fp : FP) (Q : List V → Hp → Prop), R X.K X.mg G H ts tv rs sg fp → (∀ vs, Vws X.K X.mg H ds vs → Q vs H) → runs tes sg H Q
theorem satPs_nil : SatPs X [] (evPs .nil) := by
  intro rs ds e sg G H ts tv fp Q hR h
  cases e
  exact h [] (by simp [Vws, Reps])
theorem satPs_cons {t : TE} {tes : List TE} {a : E} {r : Es} (h1 : SatP X t (evP a)) (h2 : SatPs X tes (evPs r)) : SatPs X (t :: tes) (evPs (.cons a r)) := by
  intro rs ds e sg G H ts tv fp Q hR h
  simp only [evPs] at e
  obtain ⟨x, ex, e⟩ := ob_some e
  obtain ⟨xs, exs, e⟩ := ob_some e
  cases e
  exact h1 rs x ex sg G H ts tv fp _ hR fun v hv => h2 rs xs exs sg G H ts tv fp _ hR fun vs hvs => h _ (vws_mk hv hvs)
theorem satP_fnc {p : PF} {tes : List TE} {as : Es} (h : SatPs X tes (evPs as)) : SatP X (tCB (rF X p) (runs tes)) (evP (.fnc p as)) := by
  intro rs d e sg G H ts tv fp Q hR hq
  simp only [evP] at e
  obtain ⟨xs, ex, e⟩ := ob_some e
  obtain ⟨e, hs⟩ := scOnly_some e
  exact h rs xs ex sg G H ts tv fp _ hR fun vs hv => ⟨xs, d, hv, e, fun v _ hv => hq v hv⟩
/-! ### isinstance -/
def rIs (X : Cx) (T : String) : List V → Hp → VK → Prop := fun vs H Q => ∃ x y, vs = [x, y] ∧ y = .ty T ∧ ∃ d r, Vw X.K X.mg H d x ∧ dIs T d = some r ∧ ∀ v, Vw X.K X.mg H r v → Q v H
theorem call_isD {T : String} : CallR X (.builtin "isinstance") (rIs X T) := by
  intro pins s σ H vs us Q I r h
  obtain ⟨x, y, rfl, rfl, d, b, hv, e, q⟩ := h
  unfold dIs at e
  split at e
  · rename_i n en
    obtain ⟨k, ek, rfl⟩ := Option.map_eq_some_iff.mp e
    exact call_isi pins s σ H _ us Q I r ⟨x, .ty T, .type n, .type T, k, rfl, .ty T, doesTy hv en, kit_ty ek, q _ rep_bl⟩
  · cases e
theorem boot_ty {T : String} (h : tyOkB T = true) : bootBuiltins (Str.ofString T) = some (.type T) := by
  have h' : T ∈ ["int", "bool", "str", "list", "tuple"] := by simpa [tyOkB, List.contains_iff_mem] using h
  simp only [List.mem_cons, List.not_mem_nil, or_false] at h'
  rcases h' with rfl | rfl | rfl | rfl | rfl <;> decide +kernel
theorem pe_isi {a : Expr} {ta : TE} {x y : Str} {T : String} {p q pos : Pos} (hx : x = "isinstance") (hy : y = Str.ofString T) (hT : tyOkB T = true) (gx : Gl X x ∧ (x == ("__debug__" : Str)) = false ∧ x ≠ "__name__") (gy : Gl X y ∧ (y == ("__debug__" : Str)) = false ∧ y ≠ "__name__")
    (mx : X.mg "isinstance" = none) (my : X.mg (Str.ofString T) = none) (hn : nst a = true) (ha : PE X a ta) : PE X (.Call (.Name x p) [a, .Name y q] [] pos) (tCB (rIs X T) (runs [ta, tC (.ty T)])) := by
  subst hx hy
  have h2 : PE X (.Name (Str.ofString T) q) (tC (.ty T)) := pe_bltn gy.1 my (boot_ty hT) rfl gy.2.2 gy.2.1
  have hs : ∀ e ∈ [a, Expr.Name (Str.ofString T) q], nst e = true := fun e he => by
    simp only [List.mem_cons, List.not_mem_nil, or_false] at he
    rcases he with rfl | rfl
    · exact hn
    · rfl
  exact pe_callB call_isD gx.1 mx (by decide +kernel) (pa_of (.cons ha (.one h2)) hs) gx.2.2 gx.2.1 (star_nst hn _ _) (back_nst (fun e he => hs e (List.mem_cons_of_mem _ he)) _ _)
theorem sat_isi {ta : TE} {a : E} {T : String} (ha : Opd X W ta a) : Sat X W (tCB (rIs X T) (runs [ta, tC (.ty T)])) (satOp (one (dIs T)) (a1 (slotOf a) (evE a false) a0)) := by
  refine sat_op (fun Q vs H => match vs with
    | [x] => rIs X T [x, .ty T] H Q
    | _ => False) (satA_cons ha satA_nil) (fun Q vs H h => ?_) fun sg H Q h => h
  obtain ⟨ds, d, hv, e, hs, q⟩ := h
  match ds, hv, e with
  | [x], hv, e =>
    obtain ⟨v, rfl, h1⟩ := vws1 hv
    exact ⟨v, _, rfl, rfl, x, d, h1, e, q⟩
theorem satP_isi {ta : TE} {a : E} {T : String} (ha : SatP X ta (evP a)) : SatP X (tCB (rIs X T) (runs [ta, tC (.ty T)])) (evP (.isi a T)) := by
  intro rs d e sg G H ts tv fp Q hR h
  simp only [evP] at e
  obtain ⟨x, ex, e⟩ := ob_some e
  obtain ⟨e, hs⟩ := scOnly_some e
  exact ha rs x ex sg G H ts tv fp _ hR fun v hv => ⟨v, _, rfl, rfl, x, d, hv, e, h⟩
/-! ### calls, displays -/
theorem pe_callF (g : Good X W c km) {x : Str} {f : Fn} (hf : FnHas (gvOf X) km x f) (hg : Gl X x) (hd : (x == ("__debug__" : Str)) = false) {es : List Expr} {tes : List TE} {q pos : Pos} (hne : nempty es = true) (h : PEs X es tes) (hs : ∀ e ∈ es, nst e = true) :
    PE X (.Call (.Name x q) es [] pos) (fun sg H Q => runs tes sg H fun vs H1 => spOf X.K X.mg f vs H1 Q (WE W sg)) := by
  cases es with
  | nil => cases hne
  | cons e es =>
    obtain ⟨k, a, fd, ps, hk, hm, hkp, hF, hb⟩ := hf.ex
    have hp := pe_callSD (p := q) (pos := pos) (dvs := []) (E := WE W) hF (g.room.mono hk) hg hm hkp hb .nil (fun σ => passAt g.tk σ) (pa_of h hs) hd (star_nst (hs e List.mem_cons_self) es X.env) (back_nst (fun e he => hs e (List.mem_cons_of_mem _ he)) pos X.env)
    have e : tCallSD (spOf X.K X.mg f) [] (WE W) (runs tes) = fun sg H Q => runs tes sg H fun vs H1 => spOf X.K X.mg f vs H1 Q (WE W sg) := by
      funext sg H Q
      unfold tCallSD
      simp only [List.append_nil]
    rw [← e]; exact hp
theorem sat_call {f : Fn} {tes : List TE} {as : Es} (h : SatA X W tes (evA as)) : Sat X W (fun sg H Q => runs tes sg H fun vs H1 => spOf X.K X.mg f vs H1 Q (WE W sg)) (fun rs => Res.bd (evA as rs) fun as rs1 => callD f as rs1) := by
  intro rs r e sg G H ts tv fp Q hR h1 h2
  rcases bd_some e with ⟨as', rs1, q, e⟩ | ⟨x, rs1, q, e⟩
  · refine h rs _ q sg G H ts tv fp _ hR (fun as2 rs' er vs va G' H' f' st r' ar => ?_) (fun x rs' er => by cases er)
    cases er
    exact call_sp r' ar e (fun d rs' er v G2 H2 f2 st2 r2 => h1 d rs' er v G2 H2 f2 (st.trans st2) r2) fun x rs' er cls da G2 H2 f2 st2 r2 xr => h2 x rs' er cls da G2 H2 f2 (st.trans st2) r2 xr
  · subst e
    exact h rs _ q sg G H ts tv fp _ hR (fun d' rs' er => by cases er) (fun x' rs' er => by cases er; exact h2 _ _ rfl)
theorem le_line {n : Nat} (h : n ≤ 1000) : n ≤ sizeLine := Nat.le_of_lt (small1000 h)
theorem sat_tup {tes : List TE} {ev : List D → Option (Res (List D))} (h : SatV X W tes ev) : Sat X W (tTup (runs tes)) (fun rs => Res.bd (ev rs) fun ds rs1 => if ds.length ≤ 1000 then some (.ok (.tup ds) rs1) else none) := by
  intro rs r e sg G H ts tv fp Q hR h1 h2
  rcases bd_some e with ⟨ds, rs1, q, e⟩ | ⟨x, rs1, q, e⟩
  · split at e
    · rename_i hl
      cases e
      refine h rs _ q sg G H ts tv fp _ hR (fun ds' rs' er vs G' H' f' st r' el => ?_) (fun x rs' er => by cases er)
      cases er
      refine ⟨le_line (by omega), fun p hp => ?_⟩
      obtain ⟨f2, r2, st2⟩ := r'.newT el hp
      exact h1 _ _ rfl _ _ _ _ (st.trans st2) r2
    · cases e
  · subst e
    exact h rs _ q sg G H ts tv fp _ hR (fun d' rs' er => by cases er) (fun x' rs' er => by cases er; exact h2 _ _ rfl)
theorem sat_lst {tes : List TE} {ev : List D → Option (Res (List D))} (h : SatV X W tes ev) : Sat X W (tLst (runs tes)) (fun rs => Res.bd (ev rs) fun ds rs1 => if ds.length ≤ 1000 then some (.ok (.lst true ds) rs1) else none) := by
  intro rs r e sg G H ts tv fp Q hR h1 h2
  rcases bd_some e with ⟨ds, rs1, q, e⟩ | ⟨x, rs1, q, e⟩
  · split at e
    · rename_i hl
      cases e
      refine h rs _ q sg G H ts tv fp _ hR (fun ds' rs' er vs G' H' f' st r' el => ?_) (fun x rs' er => by cases er)
      cases er
      refine ⟨le_line (by omega), fun p hp => ?_⟩
      obtain ⟨f2, r2, st2⟩ := r'.newL el hp
      exact h1 _ _ rfl _ _ _ _ (st.trans st2) r2
    · cases e
  · subst e
    exact h rs _ q sg G H ts tv fp _ hR (fun d' rs' er => by cases er) (fun x' rs' er => by cases er; exact h2 _ _ rfl)
/-! ### items -/
theorem ix_of {H : Hp} {a : Addr} {vs : List V} {k : Int} {w : V} {Q : VK} (hs : SqL X.K H a vs ∨ SqT X.K H a vs) (h : atI vs k = some w) (q : Q w H) : rIx X.K (.ref a) (.int k) H Q := by
  rcases hs with hs | hs
  · exact .inl ⟨a, vs, k, w, rfl, rfl, hs, h, q⟩
  · exact .inr (.inl ⟨a, vs, k, w, rfl, rfl, hs, h, q⟩)
theorem vws_at {H : Hp} {xs : List D} {vs : List V} {k : Int} {c : D} (h : Vws X.K X.mg H xs vs) (e : atI xs k = some c) : ∃ w, atI vs k = some w ∧ Vw X.K X.mg H c w := by
  obtain ⟨j, h1, h2⟩ := atI_ix e
  obtain ⟨w, h3, h4⟩ := vws_get h h2
  exact ⟨w, atI_of (reps_len h) h1 h3, h4⟩
theorem satP_ix {ta tb : TE} {a i : E} (ha : SatP X ta (evP a)) (hb : SatP X tb (evP i)) : SatP X (tOp (rIx X.K) ta tb) (evP (.ix a i)) := by
  intro rs d e sg G H ts tv fp Q hR h
  simp only [evP] at e
  obtain ⟨x, ex, e⟩ := ob_some e
  obtain ⟨y, ey, e⟩ := ob_some e
  refine ha rs x ex sg G H ts tv fp _ hR fun v hv => hb rs y ey sg G H ts tv fp _ hR fun w hw => ?_
  cases y with
  | int k =>
    rw [vw_int hw]
    simp only [at2] at e
    split at e
    · rename_i xs exs
      obtain ⟨a, vs, f, rfl, hs, hr, hf, _⟩ := rep_items hv (fun _ _ h => h) exs
      obtain ⟨w2, h1, h2⟩ := vws_at (reps_iff hr fun a => ⟨fun z => hf a z, fun z => z.elim⟩) e
      exact ix_of hs h1 (h _ h2)
    · cases e
  | _ => cases x <;> cases e
theorem sat_ix {ta tb : TE} {a i : E} (ha : Opd X W ta a) (hb : Sat X W tb (evE i false)) (mv : Bool) : Sat X W (tOp (rIx X.K) ta tb) (evE (.ix a i) mv) := by
  intro rs r e sg G H ts tv fp Q hR h1 h2
  simp only [evE] at e
  unfold Opd at ha
  cases q0 : slotOf a with
  | some s =>
    rw [q0] at e ha
    simp only at e ha
    subst ha
    obtain ⟨d0, qd0, e⟩ := ob_some e
    split at e
    · cases e
    rename_i hu
    obtain ⟨v, hv⟩ := hR.val qd0 (by intro z; rw [z] at hu; exact hu rfl)
    refine ⟨v, hv, ?_⟩
    rcases bd_some e with ⟨k, rs1, q, e⟩ | ⟨x, rs1, q, e⟩
    · refine hb rs _ q sg G H ts tv fp _ hR (fun d' rs' er w G' H' f' st r' => ?_) (fun x rs' er => by cases er)
      cases er
      unfold ixLoc at e
      cases k with
      | int k =>
        obtain ⟨d, qd, e⟩ := ob_some e
        obtain ⟨xs, qx, e⟩ := ob_some e
        obtain ⟨c, qc, e⟩ := ob_some e
        cases vw_int (show Vw X.K X.mg H' (.int k) w from r'.viewT)
        obtain ⟨f2, r2, st2⟩ := r'.drop
        have r3 := r2.take qd hv
        split at e
        · rename_i hz
          cases e
          obtain ⟨a, vs, w, ev, hs, hw, f3, r4, st4⟩ := r3.item qx qc
          subst ev
          -- the item is frozen: it stands beside the list
          obtain ⟨g1, g2, k1, _, _, _⟩ := r4.top
          have hc : Rep X.K X.mg G' H' c w (fun _ => False) := rep_iff k1 fun a => ⟨fun z => rep_emp c hz k1 a z, fun z => z.elim⟩
          exact ix_of hs hw (h1 c rs1 rfl w G' H' f2 (st.trans st2) (r2.pushE hc))
        · cases e
          obtain ⟨a, vs, w, ev, hs, hw, G3, f3, r4, st4⟩ := r3.fzItem qx qc
          subst ev
          obtain ⟨f5, r5, st5⟩ := (r4.swap).back (s := s) hv
          rw [List.set_set] at r5
          exact ix_of hs hw (h1 _ _ rfl w G3 H' f5 (((st.trans st2).trans st4).trans st5) r5)
      | _ => cases e
    · subst e
      exact hb rs _ q sg G H ts tv fp _ hR (fun d' rs' er => by cases er) (fun x' rs' er => by cases er; exact h2 _ _ rfl)
  | none =>
    rw [q0] at e ha
    simp only at e ha
    rcases bd_some e with ⟨d, rs1, q, e⟩ | ⟨x, rs1, q, e⟩
    · refine ha rs _ q sg G H ts tv fp _ hR (fun d' rs' er v G' H' f' st r' => ?_) (fun x rs' er => by cases er)
      cases er
      rcases bd_some e with ⟨k, rs2, q2, e⟩ | ⟨x, rs2, q2, e⟩
      · refine hb rs1 _ q2 sg G' H' _ _ f' _ r' (fun d' rs' er w G2 H2 f2 st2 r2 => ?_) (fun x rs' er => by cases er)
        cases er
        unfold ixTmp at e
        cases k with
        | int k =>
          obtain ⟨xs, qx, e⟩ := ob_some e
          obtain ⟨c, qc, e⟩ := ob_some e
          cases e
          cases vw_int (show Vw X.K X.mg H2 (.int k) w from r2.viewT)
          obtain ⟨f3, r3, st3⟩ := r2.drop
          obtain ⟨a, vs, w, ev, hs, hw, f4, r4, st4⟩ := r3.item qx qc
          subst ev
          exact ix_of hs hw (h1 c rs2 rfl w G2 H2 f4 (((st.trans st2).trans st3).trans st4) r4)
        | _ => cases e
      · subst e
        exact hb rs1 _ q2 sg G' H' _ _ f' _ r' (fun d' rs' er => by cases er) (fun x' rs' er => by cases er; exact (h2 _ _ rfl).step st)
    · subst e
      exact ha rs _ q sg G H ts tv fp _ hR (fun d' rs' er => by cases er) (fun x' rs' er => by cases er; exact h2 _ _ rfl)
/-- a copy of a list -/
def rCpy (K : Fr) : List V → Hp → VK → Prop := fun xs H Q => ∃ p ys, xs = [.ref p] ∧ (SqL K H p ys ∨ SqT K H p ys) ∧ ∀ l, H l = none → Q (.ref l) (upd H l (.lst ys))
theorem R.newL' {K : Fr} {mg : Str → Option Value} {G H : Hp} {fp : FP} {ts : List D} {tv : List V} {rs : List D} {sg : L2.St} {as : List D} {va : List V} {p : Addr} {f1 : FP} (r : R K mg G H ts tv rs sg fp) (h : Reps K mg G H as va f1) (dj : ∀ a, f1 a → ¬ fp a) (hg : ∀ a o, G a = some o → ¬ f1 a) (n : H p = none) :
    ∃ fp' : FP, R K mg G (upd H p (.lst va)) (.lst true as :: ts) (.ref p :: tv) rs sg fp' ∧ Step K G H (fun a => f1 a ∨ fp a) G (upd H p (.lst va)) fp' := by
  have r2 := r.pushN (reps_rev h) dj hg
  exact r2.newL (reps_len h) n
theorem sat_cpy {ta : TE} {a : E} (ha : Opd X W ta a) (mv : Bool) : Sat X W (tCB (rCpy X.K) (runs [ta])) (evE (.cpy a) mv) := by
  intro rs r e sg G H ts tv fp Q hR h1 h2
  simp only [evE] at e
  unfold Opd at ha
  show ta sg H fun x H1 => rCpy X.K [x] H1 Q
  cases q0 : slotOf a with
  | some s =>
    rw [q0] at e ha
    simp only at e ha
    subst ha
    unfold cpyLoc at e
    obtain ⟨d, qd, e⟩ := ob_some e
    obtain ⟨xs, qx, e⟩ := ob_some e
    split at e
    · rename_i hz
      cases e
      obtain ⟨v, hv⟩ := hR.val qd (by intro z; rw [z] at qx; cases qx)
      obtain ⟨f1, f2, k1, r2, dj, ef⟩ := (hR.take qd hv).top
      obtain ⟨a, vs, f3, ev, hs, hr, hf, _⟩ := rep_items k1 (fun a o h => (hR.sub a o h).1) qx
      subst ev
      have f3e : ∀ a, ¬ f3 a := reps_emp xs hz hr
      refine ⟨_, hv, a, vs, rfl, hs, fun l hl => ?_⟩
      obtain ⟨f4, r4, st4⟩ := hR.newL' (as := xs) hr (fun a z => absurd z (f3e a)) (fun a o _ z => f3e a z) hl
      refine h1 _ _ rfl _ _ _ f4 ⟨fun a o h n => st4.keep a o h (fun z => z.elim (f3e a) n), st4.tups, fun a z => (st4.new a z).imp id (fun q => q.elim (fun w => absurd w (f3e a)) id), st4.grow, fun a o h => .inl h⟩ r4
    · cases e
  | none =>
    rw [q0] at e ha
    simp only at e ha
    rcases bd_some e with ⟨d, rs1, q, e⟩ | ⟨x, rs1, q, e⟩
    · refine ha rs _ q sg G H ts tv fp _ hR (fun d' rs' er v G' H' f' st r' => ?_) (fun x rs' er => by cases er)
      cases er
      unfold cpyTmp at e
      obtain ⟨xs, qx, e⟩ := ob_some e
      cases e
      obtain ⟨f1, f2, k1, r2, dj, ef⟩ := r'.top
      obtain ⟨a, vs, f3, ev, hs, hr, hf, _⟩ := rep_items k1 (fun a o h => (r'.sub a o h).1) qx
      subst ev
      refine ⟨a, vs, rfl, hs, fun l hl => ?_⟩
      obtain ⟨f4, r4, st4⟩ := r2.newL' (as := xs) hr (fun a z => dj a (hf a z)) (fun a o h z => (r'.sub a o h).2 ((ef a).2 (.inl (hf a z)))) hl
      refine h1 _ _ rfl _ _ _ f4 (st.trans ⟨fun a o h n => st4.keep a o h (fun z => n ((ef a).2 (z.imp (hf a) id))), st4.tups, fun a z => (st4.new a z).imp id (fun q => (ef a).2 (q.imp (hf a) id)), st4.grow, fun a o h => .inl h⟩) r4
    · subst e
      exact ha rs _ q sg G H ts tv fp _ hR (fun d' rs' er => by cases er) (fun x' rs' er => by cases er; exact h2 _ _ rfl)
theorem pe_cpy {a : Expr} {ta : TE} {x : Str} {p pos : Pos} (hx : x = "list") (gx : Gl X x ∧ (x == ("__debug__" : Str)) = false ∧ x ≠ "__name__") (mx : X.mg "list" = none) (hn : nst a = true) (ha : PE X a ta) : PE X (.Call (.Name x p) [a] [] pos) (tCB (rCpy X.K) (runs [ta])) := by
  subst hx
  have hs : ∀ e ∈ [a], nst e = true := fun e he => by
    simp only [List.mem_cons, List.not_mem_nil, or_false] at he
    subst he; exact hn
  exact pe_callTy call_list_of gx.1 mx PyProof.Rows.boot_list (pa_of (.one ha) hs) gx.2.2 gx.2.1 (star_nst hn _ _) (back_nst (fun e he => hs e (List.mem_cons_of_mem _ he)) _ _)
end
end Pv

set_option maxHeartbeats 2000000
namespace Pv
open PySem PySem.Spec PyProof.Rows L2

section
variable {X : Cx} {W : WX} {c : Ce} {km : Nat}
theorem Sat.congr {t : TE} {ev ev' : List D → Option (Res D)} (h : Sat X W t ev) (e : ∀ rs r, ev' rs = some r → ev rs = some r) : Sat X W t ev' :=
  fun rs r q => h rs r (e rs r q)
theorem SatP.none {t : TE} {ev : List D → Option D} (h : ∀ rs, ev rs = Option.none) : SatP X t ev := fun rs d e => by rw [h] at e; cases e
theorem bd_inv {A B : Type} {r : Option (Res A)} {f : A → List D → Option (Res B)} {b : B} {rs' : List D} (h : Res.bd r f = some (.ok b rs')) : ∃ a rs, r = some (.ok a rs) ∧ f a rs = some (.ok b rs') := by
  rcases bd_some h with h | ⟨x, rs, _, e⟩
  · exact h
  · cases e
/-- and, or, of values -/
theorem sat_and1 {t : TE} {a : E} (h : Sat X W t (evE a false)) : Sat X W t (evAnd (.cons a .nil)) := by
  intro rs r e sg G H ts tv fp Q hR h1 h2
  simp only [evAnd] at e
  rcases bd_some e with ⟨d, rs1, q, e⟩ | ⟨x, rs1, q, e⟩
  · obtain ⟨b, eb, e⟩ := ob_some e
    cases d with
    | bl b' =>
      have eb : b' = b := Option.some.inj eb
      subst eb
      have er : r = .ok (.bl b') rs1 := by cases b' <;> (cases e; rfl)
      subst er
      exact h rs _ q sg G H ts tv fp Q hR h1 h2
    | _ => cases eb
  · subst e
    exact h rs _ q sg G H ts tv fp Q hR h1 h2
theorem sat_or1 {t : TE} {a : E} (h : Sat X W t (evE a false)) : Sat X W t (evOr (.cons a .nil)) := by
  intro rs r e sg G H ts tv fp Q hR h1 h2
  simp only [evOr] at e
  rcases bd_some e with ⟨d, rs1, q, e⟩ | ⟨x, rs1, q, e⟩
  · obtain ⟨b, eb, e⟩ := ob_some e
    cases d with
    | bl b' =>
      have eb : b' = b := Option.some.inj eb
      subst eb
      have er : r = .ok (.bl b') rs1 := by cases b' <;> (cases e; rfl)
      subst er
      exact h rs _ q sg G H ts tv fp Q hR h1 h2
    | _ => cases eb
  · subst e
    exact h rs _ q sg G H ts tv fp Q hR h1 h2
theorem sat_andN {t u : TE} {a : E} {r : Es} (h : Sat X W t (evE a false)) (hr : Sat X W u (evAnd r)) : Sat X W (tAndV t u) (evAnd (.cons a r)) := by
  intro rs rr e sg G H ts tv fp Q hR h1 h2
  simp only [evAnd] at e
  rcases bd_some e with ⟨d, rs1, q, e⟩ | ⟨x, rs1, q, e⟩
  · obtain ⟨b, eb, e⟩ := ob_some e
    refine h rs _ q sg G H ts tv fp _ hR (fun d' rs' er v G' H' f' st r' => ?_) (fun x rs' er => by cases er)
    cases er
    cases d with
    | bl b' =>
      have eb : b' = b := Option.some.inj eb
      subst eb
      obtain ⟨f2, r2, st2⟩ := r'.drop
      refine ⟨b', vw_bl r'.viewT, ?_⟩
      cases b' with
      | true =>
        simp only [if_true] at e ⊢
        exact hr rs1 _ e sg G' H' ts tv f2 Q r2 (fun d rs' er v G3 H3 f3 st3 r3 => h1 d rs' er v G3 H3 f3 ((st.trans st2).trans st3) r3) fun x rs' er => (h2 x rs' er).step (st.trans st2)
      | false =>
        simp only [Bool.false_eq_true, if_false] at e ⊢
        cases e
        exact h1 _ _ rfl _ _ _ _ (st.trans st2) (r2.pushE rep_bl)
    | _ => cases eb
  · subst e
    exact h rs _ q sg G H ts tv fp _ hR (fun d' rs' er => by cases er) (fun x' rs' er => by cases er; exact h2 _ _ rfl)
theorem sat_orN {t u : TE} {a : E} {r : Es} (h : Sat X W t (evE a false)) (hr : Sat X W u (evOr r)) : Sat X W (tOrV t u) (evOr (.cons a r)) := by
  intro rs rr e sg G H ts tv fp Q hR h1 h2
  simp only [evOr] at e
  rcases bd_some e with ⟨d, rs1, q, e⟩ | ⟨x, rs1, q, e⟩
  · obtain ⟨b, eb, e⟩ := ob_some e
    refine h rs _ q sg G H ts tv fp _ hR (fun d' rs' er v G' H' f' st r' => ?_) (fun x rs' er => by cases er)
    cases er
    cases d with
    | bl b' =>
      have eb : b' = b := Option.some.inj eb
      subst eb
      obtain ⟨f2, r2, st2⟩ := r'.drop
      refine ⟨b', vw_bl r'.viewT, ?_⟩
      cases b' with
      | false =>
        simp only [Bool.false_eq_true, if_false] at e ⊢
        exact hr rs1 _ e sg G' H' ts tv f2 Q r2 (fun d rs' er v G3 H3 f3 st3 r3 => h1 d rs' er v G3 H3 f3 ((st.trans st2).trans st3) r3) fun x rs' er => (h2 x rs' er).step (st.trans st2)
      | true =>
        simp only [if_true] at e ⊢
        cases e
        exact h1 _ _ rfl _ _ _ _ (st.trans st2) (r2.pushE rep_bl)
    | _ => cases eb
  · subst e
    exact h rs _ q sg G H ts tv fp _ hR (fun d' rs' er => by cases er) (fun x' rs' er => by cases er; exact h2 _ _ rfl)
/-- a chain of looks -/
theorem sat_chn {p q : P2} {ta tb tc : TE} {a b d : E} (ha : SatP X ta (evP a)) (hb : SatP X tb (evP b)) (hc : SatP X tc (evP d)) (mv : Bool) : Sat X W (tChain (rD2 X p) (rD2 X q) ta tb tc) (evE (.chn p q a b d) mv) := by
  intro rs r e sg G H ts tv fp Q hR h1 h2
  simp only [evE, chnD] at e
  obtain ⟨x, ex, e⟩ := ob_some e
  obtain ⟨y, ey, e⟩ := ob_some e
  refine ha rs x ex sg G H ts tv fp _ hR fun v hv => hb rs y ey sg G H ts tv fp _ hR fun w hw => ?_
  split at e
  · rename_i ed
    obtain ⟨z, ez, e⟩ := ob_some e
    obtain ⟨d', ed', e⟩ := ob_some e
    obtain ⟨ed', hs⟩ := scOnly_some ed'
    cases d' with
    | bl b' =>
      cases e
      refine ⟨x, y, .bl true, hv, hw, ed, fun u _ hu => ⟨true, vw_bl hu, ?_⟩⟩
      simp only [if_true]
      exact hc rs z ez sg G H ts tv fp _ hR fun u hu => ⟨y, z, .bl b', hw, hu, ed', fun u' _ hu' => h1 _ _ rfl _ _ _ _ .refl (hR.pushE (sc_any hs hu'))⟩
    | _ => cases e
  · rename_i ed
    cases e
    refine ⟨x, y, .bl false, hv, hw, ed, fun u _ hu => ⟨false, vw_bl hu, ?_⟩⟩
    simp only [Bool.false_eq_true, if_false]
    exact h1 _ _ rfl _ _ _ _ .refl (hR.pushE rep_bl)
  · cases e
theorem chn_bl {p q : P2} {a b d : E} {rs rs' : List D} {x : D} (h : evE (.chn p q a b d) false rs = some (.ok x rs')) : ∃ k, x = .bl k := by
  simp only [evE, chnD] at h
  obtain ⟨x, ex, e⟩ := ob_some h
  obtain ⟨y, ey, e⟩ := ob_some e
  split at e
  · obtain ⟨z, ez, e⟩ := ob_some e
    obtain ⟨d', ed', e⟩ := ob_some e
    cases d' <;> first | (cases e; exact ⟨_, rfl⟩) | cases e
  · cases e; exact ⟨_, rfl⟩
  · cases e
/-- a conditional expression -/
theorem sat_ite {tt : TT} {ta tb : TE} {t a b : E} (ht : SatT X W tt (evT t)) (ha : ∀ mv, Sat X W ta (evE a mv)) (hb : ∀ mv, Sat X W tb (evE b mv)) (mv : Bool) : Sat X W (tIf tt ta tb) (evE (.ite t a b) mv) := by
  intro rs r e sg G H ts tv fp Q hR h1 h2
  simp only [evE] at e
  rcases bd_some e with ⟨d, rs1, q, e⟩ | ⟨x, rs1, q, e⟩
  · obtain ⟨k, ek, e⟩ := ob_some e
    cases d with
    | bl k' =>
      have ek : k' = k := Option.some.inj ek
      subst ek
      have et : evT t rs = some (.ok k' rs1) := by unfold evT; rw [q]; rfl
      refine ht rs _ et sg G H ts tv fp _ hR (fun b' rs' er G' H' f' st r' => ?_) (fun x rs' er => by cases er)
      cases er
      cases k' with
      | true =>
        simp only [if_true] at e ⊢
        exact ha mv rs1 _ e sg G' H' ts tv f' Q r' (fun d rs' er v G3 H3 f3 st3 r3 => h1 d rs' er v G3 H3 f3 (st.trans st3) r3) fun x rs' er => (h2 x rs' er).step st
      | false =>
        simp only [Bool.false_eq_true, if_false] at e ⊢
        exact hb mv rs1 _ e sg G' H' ts tv f' Q r' (fun d rs' er v G3 H3 f3 st3 r3 => h1 d rs' er v G3 H3 f3 (st.trans st3) r3) fun x rs' er => (h2 x rs' er).step st
    | _ => cases ek
  · subst e
    have et : evT t rs = some (.exc x rs1) := by unfold evT; rw [q]; rfl
    exact ht rs _ et sg G H ts tv fp _ hR (fun b' rs' er => by cases er) (fun x' rs' er => by cases er; exact h2 _ _ rfl)
/-- tests -/
theorem satT_not {t : TT} {a : E} (h : SatT X W t (evT a)) : SatT X W (tNot t) (evT (.lnot a)) := by
  intro rs r e sg G H ts tv fp Q hR h1 h2
  unfold evT at e
  simp only [evE] at e
  rcases bd_some e with ⟨d, rs1, q, e⟩ | ⟨x, rs1, q, e⟩
  · obtain ⟨k, ek, e⟩ := ob_some e
    cases e
    rcases bd_some q with ⟨d', rs2, q', e⟩ | ⟨x, rs2, q', e⟩
    · obtain ⟨b, eb, e⟩ := ob_some e
      cases e
      cases ek
      cases d' with
      | bl b' =>
        have eb : b' = b := Option.some.inj eb
        subst eb
        have et : evT a rs = some (.ok b' rs1) := by unfold evT; rw [q']; rfl
        refine h rs _ et sg G H ts tv fp _ hR (fun b2 rs' er G' H' f' st r' => ?_) (fun x rs' er => by cases er)
        cases er
        exact h1 _ _ rfl G' H' f' st r'
      | _ => cases eb
    · cases e
  · subst e
    rcases bd_some q with ⟨d', rs2, q', e⟩ | ⟨x, rs2, q', e⟩
    · obtain ⟨b, eb, e⟩ := ob_some e
      cases e
    · cases e
      have et : evT a rs = some (.exc x rs1) := by unfold evT; rw [q']; rfl
      exact h rs _ et sg G H ts tv fp _ hR (fun b2 rs' er => by cases er) (fun x' rs' er => by cases er; exact h2 _ _ rfl)
def evTA (m : Es) (rs : List D) : Option (Res Bool) := Res.bd (evAnd m rs) fun d rs1 => ob (dT d) fun b => some (.ok b rs1)
def evTO (m : Es) (rs : List D) : Option (Res Bool) := Res.bd (evOr m rs) fun d rs1 => ob (dT d) fun b => some (.ok b rs1)
theorem evTA_eq {as : Es} : evT (.land as) = evTA as := by funext rs; unfold evT evTA; simp only [evE]
theorem evTO_eq {as : Es} : evT (.lor as) = evTO as := by funext rs; unfold evT evTO; simp only [evE]
/-- what a first operand gives -/
theorem evTA_cons {a : E} {r : Es} {rs : List D} {q : Res Bool} (e : evTA (.cons a r) rs = some q) : (∃ rs1, evT a rs = some (.ok true rs1) ∧ evTA r rs1 = some q) ∨ (∃ rs1, evT a rs = some (.ok false rs1) ∧ q = .ok false rs1) ∨ ∃ x rs1, evT a rs = some (.exc x rs1) ∧ q = .exc x rs1 := by
  unfold evTA at e
  simp only [evAnd] at e
  unfold evT
  cases q0 : evE a false rs with
  | none => rw [q0] at e; cases e
  | some r0 =>
    rw [q0] at e
    cases r0 with
    | exc x rs1 => cases e; exact .inr (.inr ⟨x, rs1, rfl, rfl⟩)
    | ok d rs1 =>
      simp only [Res.bd_ok] at e ⊢
      cases d with
      | bl b =>
        cases b with
        | true => exact .inl ⟨rs1, rfl, e⟩
        | false => cases e; exact .inr (.inl ⟨rs1, rfl, rfl⟩)
      | _ => cases e
theorem evTO_cons {a : E} {r : Es} {rs : List D} {q : Res Bool} (e : evTO (.cons a r) rs = some q) : (∃ rs1, evT a rs = some (.ok false rs1) ∧ evTO r rs1 = some q) ∨ (∃ rs1, evT a rs = some (.ok true rs1) ∧ q = .ok true rs1) ∨ ∃ x rs1, evT a rs = some (.exc x rs1) ∧ q = .exc x rs1 := by
  unfold evTO at e
  simp only [evOr] at e
  unfold evT
  cases q0 : evE a false rs with
  | none => rw [q0] at e; cases e
  | some r0 =>
    rw [q0] at e
    cases r0 with
    | exc x rs1 => cases e; exact .inr (.inr ⟨x, rs1, rfl, rfl⟩)
    | ok d rs1 =>
      simp only [Res.bd_ok] at e ⊢
      cases d with
      | bl b =>
        cases b with
        | false => exact .inl ⟨rs1, rfl, e⟩
        | true => cases e; exact .inr (.inl ⟨rs1, rfl, rfl⟩)
      | _ => cases e
theorem satT_and1 {t : TT} {a : E} (h : SatT X W t (evT a)) : SatT X W t (evTA (.cons a .nil)) := by
  intro rs r e sg G H ts tv fp Q hR h1 h2
  rcases evTA_cons e with ⟨rs1, q, e⟩ | ⟨rs1, q, e⟩ | ⟨x, rs1, q, e⟩
  · cases e
    exact h rs _ q sg G H ts tv fp Q hR h1 h2
  · subst e
    exact h rs _ q sg G H ts tv fp Q hR h1 h2
  · subst e
    exact h rs _ q sg G H ts tv fp Q hR h1 h2
theorem satT_or1 {t : TT} {a : E} (h : SatT X W t (evT a)) : SatT X W t (evTO (.cons a .nil)) := by
  intro rs r e sg G H ts tv fp Q hR h1 h2
  rcases evTO_cons e with ⟨rs1, q, e⟩ | ⟨rs1, q, e⟩ | ⟨x, rs1, q, e⟩
  · cases e
    exact h rs _ q sg G H ts tv fp Q hR h1 h2
  · subst e
    exact h rs _ q sg G H ts tv fp Q hR h1 h2
  · subst e
    exact h rs _ q sg G H ts tv fp Q hR h1 h2
theorem satT_andN {t u : TT} {a : E} {r : Es} (h : SatT X W t (evT a)) (hr : SatT X W u (evTA r)) : SatT X W (tAnd t u) (evTA (.cons a r)) := by
  intro rs rr e sg G H ts tv fp Q hR h1 h2
  rcases evTA_cons e with ⟨rs1, q, e⟩ | ⟨rs1, q, e⟩ | ⟨x, rs1, q, e⟩
  · refine h rs _ q sg G H ts tv fp _ hR (fun b2 rs' er G' H' f' st r' => ?_) (fun x rs' er => by cases er)
    cases er
    simp only [if_true]
    exact hr rs1 _ e sg G' H' ts tv f' Q r' (fun d rs' er G3 H3 f3 st3 r3 => h1 d rs' er G3 H3 f3 (st.trans st3) r3) fun x rs' er => (h2 x rs' er).step st
  · subst e
    refine h rs _ q sg G H ts tv fp _ hR (fun b2 rs' er G' H' f' st r' => ?_) (fun x rs' er => by cases er)
    cases er
    simp only [Bool.false_eq_true, if_false]
    exact h1 _ _ rfl G' H' f' st r'
  · subst e
    exact h rs _ q sg G H ts tv fp _ hR (fun b2 rs' er => by cases er) h2
theorem satT_orN {t u : TT} {a : E} {r : Es} (h : SatT X W t (evT a)) (hr : SatT X W u (evTO r)) : SatT X W (tOr t u) (evTO (.cons a r)) := by
  intro rs rr e sg G H ts tv fp Q hR h1 h2
  rcases evTO_cons e with ⟨rs1, q, e⟩ | ⟨rs1, q, e⟩ | ⟨x, rs1, q, e⟩
  · refine h rs _ q sg G H ts tv fp _ hR (fun b2 rs' er G' H' f' st r' => ?_) (fun x rs' er => by cases er)
    cases er
    simp only [Bool.false_eq_true, if_false]
    exact hr rs1 _ e sg G' H' ts tv f' Q r' (fun d rs' er G3 H3 f3 st3 r3 => h1 d rs' er G3 H3 f3 (st.trans st3) r3) fun x rs' er => (h2 x rs' er).step st
  · subst e
    refine h rs _ q sg G H ts tv fp _ hR (fun b2 rs' er G' H' f' st r' => ?_) (fun x rs' er => by cases er)
    cases er
    simp only [if_true]
    exact h1 _ _ rfl G' H' f' st r'
  · subst e
    exact h rs _ q sg G H ts tv fp _ hR (fun b2 rs' er => by cases er) h2
/-- what an expression of the text is as a test by its value -/
def byVal : Expr → Bool
  | .UnaryOp .Not _ _ => false
  | .BoolOp _ _ _ => false
  | .IfExp _ _ _ _ => false
  | .Compare _ _ _ _ => false
  | _ => true
theorem pt_byVal {e : Expr} {t : TE} (h : PE X e t) (hb : byVal e = true) : PT X e (fun sg H Q => t sg H fun x H' => ∃ k, TruV X.K x H' k ∧ Q k H') :=
  pt_truth h fun whole => by
    cases e with
    | UnaryOp o a p => cases o <;> first | rfl | cases hb
    | BoolOp _ _ _ => cases hb
    | IfExp _ _ _ _ => cases hb
    | Compare _ _ _ _ => cases hb
    | _ => rfl

/-- all there is to say of an expression -/
structure All (X : Cx) (W : WX) (e : Expr) (m : E) : Prop where
  se : SE X W e m
  sp : SP X e m
  st : tok m = true → ST X W e m
  spt : pok m = true → SPT X e m
structure AllL (X : Cx) (W : WX) (es : List Expr) (as : Es) : Prop where
  nst : ∀ e ∈ es, nst e = true
  exA : ∃ tes, PEs X es tes ∧ SatA X W tes (evA as)
  exV : ∃ tes, PEs X es tes ∧ ∀ mv, SatV X W tes (evV as mv)
  exP : ∃ tes, PEs X es tes ∧ SatPs X tes (evPs as)
  land : nempty es = true → ∀ pos, ∃ t, PE X (.BoolOp .And es pos) t ∧ Sat X W t (evAnd as)
  lor : nempty es = true → ∀ pos, ∃ t, PE X (.BoolOp .Or es pos) t ∧ Sat X W t (evOr as)
  landT : nempty es = true → toks as = true → ∀ pos, ∃ t, PW X (.BoolOp .And es pos) t ∧ SatT X W t (evTA as)
  lorT : nempty es = true → toks as = true → ∀ pos, ∃ t, PW X (.BoolOp .Or es pos) t ∧ SatT X W t (evTO as)
/-- from a value to a test -/
theorem all_val {e : Expr} {m : E} (h1 : SE X W e m) (h2 : SP X e m) (hb : byVal e = true) : All X W e m :=
  ⟨h1, h2, fun _ => by
    obtain ⟨t, p, s, _⟩ := h1.ex
    exact ⟨_, pt_byVal p hb, satT_of (s false)⟩, fun _ => by
    obtain ⟨t, p, s⟩ := h2.ex
    exact ⟨_, pt_byVal p hb, satPT_of s⟩⟩
theorem se_mk {e : Expr} {m : E} {t : TE} (h : PE X e t) (hs : ∀ mv, Sat X W t (evE m mv)) (hn : slotOf m = none) : SE X W e m := ⟨t, h, hs, fun s q => by rw [hn] at q; cases q⟩
theorem sp_none {e : Expr} {m : E} {t : TE} (h : PE X e t) (hn : ∀ rs, evP m rs = none) : SP X e m := ⟨t, h, .none hn⟩
theorem chn_marks {p q : P2} {o1 o2 : CmpOp} (h1 : cmpB p o1 = true) (h2 : cmpB q o2 = true) (m r : Expr) : lastMarks [o1, o2] [m, r] = false := by
  obtain ⟨_, a1, a2⟩ := cmp_of h1
  obtain ⟨_, b1, b2⟩ := cmp_of h2
  exact nobehind r b1 b2
theorem ands {a b : Bool} (h : (a && b) = true) : a = true ∧ b = true := Bool.and_eq_true_iff.mp h
mutual
/-- THE EXPRESSIONS -/
theorem allE : ∀ (m : E) {X : Cx} {W : WX} {c : Ce} {km : Nat} (g : Good X W c km) (e : Expr), chkE c m e = true → OkE (gvOf X) km m → All X W e m
  | .var i, X, W, c, km, g, e, hc, ho => by
    cases e <;> first | (cases hc; done) | skip
    rename_i x pos
    have hp := g.pv (pos := pos) hc
    exact all_val ⟨_, hp, sat_var, fun s q => by cases q; rfl⟩ ⟨_, hp, satP_var⟩ rfl
  | .con d, X, W, c, km, g, e, hc, ho => by
    cases e <;> first | (cases hc; done) | skip
    rename_i k n pos
    obtain ⟨t, v, hp, hr, ht⟩ := con_of (X := X) (n := n) (pos := pos) hc
    exact all_val (se_mk hp (fun mv => sat_push hr ht) rfl) ⟨_, hp, satP_push hr ht⟩ rfl
  | .glo x d, X, W, c, km, g, e, hc, ho => by
    cases e <;> first | (cases hc; done) | skip
    rename_i y pos
    obtain ⟨h1, h2⟩ := ands hc
    obtain ⟨gl, dbg, nm⟩ := g.gl h2
    have ho : GlHas (gvOf X) x d := ho
    obtain ⟨v, u, hm, rv, hr⟩ := ho.ex
    have hx : x = y := of_decide_eq_true h1
    subst hx
    have hp : PE X (.Name x pos) (tC v) := pe_glob gl hm rv dbg
    exact all_val (se_mk hp (fun mv => sat_push hr fun _ _ _ q => q) rfl) ⟨_, hp, satP_push hr fun _ _ _ q => q⟩ rfl
  | .op2 p a b, X, W, c, km, g, e, hc, ho => by
    cases e <;> first | (cases hc; done) | skip
    · rename_i l o r pos
      obtain ⟨h1, h2⟩ := ands hc
      obtain ⟨h2, h3⟩ := ands h2
      have A := allE a g l h2 ho.1
      have B := allE b g r h3 ho.2
      obtain ⟨ta, pa, oa⟩ := A.se.opd
      obtain ⟨tb, pb, ob⟩ := B.se.opd
      obtain ⟨ua, qa, sa⟩ := A.sp.ex
      obtain ⟨ub, qb, sb⟩ := B.sp.ex
      exact all_val (se_mk (pe_bin g.fine h1 pa pb) (fun mv => sat_op2 oa ob) rfl) ⟨_, pe_bin g.fine h1 qa qb, satP_op2 sa sb⟩ rfl
    · rename_i l os rs' pos
      cases os with
      | nil => cases hc
      | cons o os =>
        cases os with
        | cons _ _ => cases hc
        | nil =>
          cases rs' with
          | nil => cases hc
          | cons r rs' =>
            cases rs' with
            | cons _ _ => cases hc
            | nil =>
              obtain ⟨h1, h2⟩ := ands hc
              obtain ⟨h2, h3⟩ := ands h2
              have A := allE a g l h2 ho.1
              have B := allE b g r h3 ho.2
              obtain ⟨ta, pa, oa⟩ := A.se.opd
              obtain ⟨tb, pb, ob⟩ := B.se.opd
              obtain ⟨ua, qa, sa⟩ := A.sp.ex
              obtain ⟨ub, qb, sb⟩ := B.sp.ex
              refine ⟨se_mk (pe_cmp2 g.fine h1 pa pb) (fun mv => sat_op2 oa ob) rfl, ⟨_, pe_cmp2 g.fine h1 qa qb, satP_op2 sa sb⟩, fun _ => ⟨_, pt_cmp2 g.fine h1 pa pb, satT_bl (sat_op2 oa ob) fun rs d rs' e => ?_⟩, fun _ => ⟨_, pt_cmp2 g.fine h1 qa qb, satPT_bl (satP_op2 sa sb) fun rs d e => ?_⟩⟩
              · simp only [evE] at e
                obtain ⟨ds, e1, _⟩ := satOp_inv e
                match ds, e1 with
                | [x, y], e1 => exact cmp_bl h1 e1
              · simp only [evP] at e
                obtain ⟨x, ex, e⟩ := ob_some e
                obtain ⟨y, ey, e⟩ := ob_some e
                exact cmp_bl h1 (scOnly_some e).1
  | .neg a, X, W, c, km, g, e, hc, ho => by
    cases e <;> first | (cases hc; done) | skip
    rename_i o x pos
    cases o <;> first | (cases hc; done) | skip
    have A := allE a g x hc ho
    obtain ⟨ta, pa, oa⟩ := A.se.opd
    obtain ⟨ua, qa, sa⟩ := A.sp.ex
    exact all_val (se_mk (pe_neg pa) (fun mv => sat_neg oa) rfl) ⟨_, pe_neg qa, satP_neg sa⟩ rfl
  | .lnot a, X, W, c, km, g, e, hc, ho => by
    cases e <;> first | (cases hc; done) | skip
    rename_i o x pos
    cases o <;> first | (cases hc; done) | skip
    have A := allE a g x hc ho
    obtain ⟨ta, pa, oa, _⟩ := A.se.ex
    have hp : PE X (.UnaryOp .Not x pos) (tNotV ta) := pe_not pa
    refine ⟨se_mk hp (fun mv => ?_) rfl, sp_none hp fun _ => rfl, fun h => ?_, fun h => by cases h⟩
    · show Sat X W (tNotV ta) (fun rs => Res.bd (evE a false rs) fun d rs1 => ob (asBl d) fun b => some (.ok (.bl (!b)) rs1))
      exact sat_bl (oa false) (fun _ => rfl) (fun b => .bl (!b)) (fun b G H => rep_bl) fun sg H Q h => h
    · obtain ⟨tt, pt, st⟩ := (A.st h).ex
      exact ⟨_, pt_not pt, satT_not st⟩
  | .land as, X, W, c, km, g, e, hc, ho => by
    cases e <;> first | (cases hc; done) | skip
    rename_i o es pos
    cases o <;> first | (cases hc; done) | skip
    obtain ⟨h1, h2⟩ := ands hc
    have L := allL as g es h2 ho
    obtain ⟨t, p, s⟩ := L.land h1 pos
    refine ⟨se_mk p (fun mv => s) rfl, sp_none p fun _ => rfl, fun h => ?_, fun h => by cases h⟩
    obtain ⟨tt, pt, st⟩ := L.landT h1 h pos
    exact ⟨tt, pt.pt, by rw [evTA_eq]; exact st⟩
  | .lor as, X, W, c, km, g, e, hc, ho => by
    cases e <;> first | (cases hc; done) | skip
    rename_i o es pos
    cases o <;> first | (cases hc; done) | skip
    obtain ⟨h1, h2⟩ := ands hc
    have L := allL as g es h2 ho
    obtain ⟨t, p, s⟩ := L.lor h1 pos
    refine ⟨se_mk p (fun mv => s) rfl, sp_none p fun _ => rfl, fun h => ?_, fun h => by cases h⟩
    obtain ⟨tt, pt, st⟩ := L.lorT h1 h pos
    exact ⟨tt, pt.pt, by rw [evTO_eq]; exact st⟩
  | .ite t a b, X, W, c, km, g, e, hc, ho => by
    cases e <;> first | (cases hc; done) | skip
    rename_i x y z pos
    obtain ⟨h1, h2⟩ := ands hc
    obtain ⟨h1', h1⟩ := ands h1
    obtain ⟨h2, h3⟩ := ands h2
    obtain ⟨tt, pt, st⟩ := ((allE t g x h1 ho.1).st h1').ex
    obtain ⟨ta, pa, sa, _⟩ := (allE a g y h2 ho.2.1).se.ex
    obtain ⟨tb, pb, sb, _⟩ := (allE b g z h3 ho.2.2).se.ex
    have hp : PE X (.IfExp x y z pos) (tIf tt ta tb) := pe_ifExp pt pa pb
    exact ⟨se_mk hp (fun mv => sat_ite st sa sb mv) rfl, sp_none hp fun _ => rfl, (fun h => by cases h), fun h => by cases h⟩
  | .chn p q a b d, X, W, c, km, g, e, hc, ho => by
    cases e <;> first | (cases hc; done) | skip
    rename_i l os rs' pos
    match os, rs', hc with
    | [o1, o2], [m, r], hc =>
      obtain ⟨h1, h2⟩ := ands hc
      obtain ⟨h1, h1'⟩ := ands h1
      obtain ⟨h2, h3⟩ := ands h2
      obtain ⟨h3, h4⟩ := ands h3
      obtain ⟨ta, pa, sa⟩ := (allE a g l h2 ho.1).sp.ex
      obtain ⟨tb, pb, sb⟩ := (allE b g m h3 ho.2.1).sp.ex
      obtain ⟨tc, pc, sc⟩ := (allE d g r h4 ho.2.2).sp.ex
      have o1' : OpR X (compareOp o1) (rD2 X p) := by rw [← (cmp_of h1).1]; exact doesR g.fine p
      have o2' : OpR X (compareOp o2) (rD2 X q) := by rw [← (cmp_of h1').1]; exact doesR g.fine q
      have hl := chn_marks h1 h1' m r
      have hp : PE X (.Compare l [o1, o2] [m, r] pos) _ := pe_chain o1' o2' pa pb pc hl
      exact ⟨se_mk hp (fun mv => sat_chn sa sb sc mv) rfl, sp_none hp fun _ => rfl, fun _ => ⟨_, pt_chain o1' o2' pa pb pc hl, satT_bl (sat_chn sa sb sc false) fun rs d rs' e => chn_bl e⟩, fun h => by cases h⟩
  | .fnc p as, X, W, c, km, g, e, hc, ho => by
    cases e <;> first | (cases hc; done) | skip
    rename_i f es kws pos
    cases f <;> first | (cases hc; done) | skip
    rename_i x q
    cases kws with
    | cons _ _ => cases hc
    | nil =>
      obtain ⟨h1, h2⟩ := ands hc
      obtain ⟨h1, h1'⟩ := ands h1
      obtain ⟨h2, h3⟩ := ands h2
      have L := allL as g es h3 ho.2
      obtain ⟨tes, ps, sa⟩ := L.exA
      obtain ⟨tes', ps', sp⟩ := L.exP
      obtain ⟨gl, dbg, nm⟩ := g.gl h1'
      have hp := pe_fnc g.fine (q := q) (pos := pos) ho.1 (of_decide_eq_true h1) gl nm dbg h2 ps L.nst
      have hp' := pe_fnc g.fine (q := q) (pos := pos) ho.1 (of_decide_eq_true h1) gl nm dbg h2 ps' L.nst
      exact all_val (se_mk hp (fun mv => sat_fnc sa) rfl) ⟨_, hp', satP_fnc sp⟩ rfl
  | .isi a T, X, W, c, km, g, e, hc, ho => by
    cases e <;> first | (cases hc; done) | skip
    rename_i f es kws pos
    cases f <;> first | (cases hc; done) | skip
    rename_i x q
    match es, kws, hc with
    | [e, .Name y q2], [], hc =>
      obtain ⟨h1, h2⟩ := ands hc
      obtain ⟨h1, h3⟩ := ands h1
      obtain ⟨h1, h1'⟩ := ands h1
      obtain ⟨h3, h4⟩ := ands h3
      obtain ⟨h3, h3'⟩ := ands h3
      obtain ⟨h2, h5⟩ := ands h2
      have A := allE a g e h5 ho.2
      obtain ⟨ta, pa, oa⟩ := A.se.opd
      obtain ⟨ua, qa, sa⟩ := A.sp.ex
      exact all_val (se_mk (pe_isi (of_decide_eq_true h1) (of_decide_eq_true h3) h4 (g.gl h1') (g.gl h3') ho.1.1 ho.1.2 h2 pa) (fun mv => sat_isi oa) rfl) ⟨_, pe_isi (of_decide_eq_true h1) (of_decide_eq_true h3) h4 (g.gl h1') (g.gl h3') ho.1.1 ho.1.2 h2 qa, satP_isi sa⟩ rfl
  | .call f fn as, X, W, c, km, g, e, hc, ho => by
    cases e <;> first | (cases hc; done) | skip
    rename_i f' es kws pos
    cases f' <;> first | (cases hc; done) | skip
    rename_i x q
    cases kws with
    | cons _ _ => cases hc
    | nil =>
      obtain ⟨h1, h2⟩ := ands hc
      obtain ⟨h1, h1'⟩ := ands h1
      obtain ⟨h2, h3⟩ := ands h2
      have L := allL as g es h3 ho.2
      obtain ⟨tes, ps, sa⟩ := L.exA
      obtain ⟨gl, dbg, nm⟩ := g.gl h1'
      have hx : x = f := of_decide_eq_true h1
      subst hx
      have hp := pe_callF g (q := q) (pos := pos) ho.1 gl dbg h2 ps L.nst
      exact all_val (se_mk hp (fun mv => sat_call sa) rfl) (sp_none hp fun _ => rfl) rfl
  | .tup as, X, W, c, km, g, e, hc, ho => by
    cases e <;> first | (cases hc; done) | skip
    rename_i es k pos
    have L := allL as g es hc ho
    obtain ⟨tes, ps, sv⟩ := L.exV
    have hp : PE X (.Tuple es k pos) (tTup (runs tes)) := pe_tup (pa_of ps L.nst)
    exact all_val (se_mk hp (fun mv => sat_tup (sv mv)) rfl) (sp_none hp fun _ => rfl) rfl
  | .lst as, X, W, c, km, g, e, hc, ho => by
    cases e <;> first | (cases hc; done) | skip
    rename_i es pos
    have L := allL as g es hc ho
    obtain ⟨tes, ps, sv⟩ := L.exV
    have hp : PE X (.List es pos) (tLst (runs tes)) := pe_lst (pa_of ps L.nst)
    exact all_val (se_mk hp (fun mv => sat_lst (sv mv)) rfl) (sp_none hp fun _ => rfl) rfl
  | .ix a i, X, W, c, km, g, e, hc, ho => by
    cases e <;> first | (cases hc; done) | skip
    rename_i x y pos
    obtain ⟨h1, h2⟩ := ands hc
    obtain ⟨h2, h3⟩ := ands h2
    have A := allE a g x h2 ho.1
    have B := allE i g y h3 ho.2
    obtain ⟨ta, pa, oa⟩ := A.se.opd
    obtain ⟨tb, pb, sb, _⟩ := B.se.ex
    obtain ⟨ua, qa, sa⟩ := A.sp.ex
    obtain ⟨ub, qb, sb'⟩ := B.sp.ex
    exact all_val (se_mk (pe_ix ix_seq pa pb (plain_nsl h1)) (fun mv => sat_ix oa (sb false) mv) rfl) ⟨_, pe_ix ix_seq qa qb (plain_nsl h1), satP_ix sa sb'⟩ rfl
  | .pk a, X, W, c, km, g, e, hc, ho => by
    have A := allE a g e (by simpa only [chkE] using hc) ho
    obtain ⟨ua, qa, sa⟩ := A.sp.ex
    refine ⟨se_mk qa (fun mv => sat_pk sa mv) rfl, sp_none qa fun _ => rfl, fun h => ?_, fun h => by cases h⟩
    obtain ⟨tt, pt, st⟩ := (A.spt h).ex
    exact ⟨tt, pt, satT_pk st⟩
  | .cpy a, X, W, c, km, g, e, hc, ho => by
    cases e <;> first | (cases hc; done) | skip
    rename_i f es kws pos
    cases f <;> first | (cases hc; done) | skip
    rename_i x q
    match es, kws, hc with
    | [e], [], hc =>
      obtain ⟨h1, h2⟩ := ands hc
      obtain ⟨h1, h1'⟩ := ands h1
      obtain ⟨h2, h3⟩ := ands h2
      have A := allE a g e h3 ho.2
      obtain ⟨ta, pa, oa⟩ := A.se.opd
      have hp := pe_cpy (p := q) (pos := pos) (of_decide_eq_true h1) (g.gl h1') ho.1 h2 pa
      exact all_val (se_mk hp (fun mv => sat_cpy oa mv) rfl) (sp_none hp fun _ => rfl) rfl
theorem allL : ∀ (as : Es) {X : Cx} {W : WX} {c : Ce} {km : Nat} (g : Good X W c km) (es : List Expr), chkL c as es = true → OkL (gvOf X) km as → AllL X W es as
  | .nil, X, W, c, km, g, es, hc, ho => by
    cases es with
    | cons _ _ => cases hc
    | nil => exact ⟨(fun _ h => by cases h), ⟨[], .nil, satA_nil⟩, ⟨[], .nil, fun _ => satV_nil⟩, ⟨[], .nil, satPs_nil⟩, (fun h => by cases h), (fun h => by cases h), (fun h => by cases h), (fun h => by cases h)⟩
  | .cons a r, X, W, c, km, g, es, hc, ho => by
    cases es with
    | nil => cases hc
    | cons e es =>
      obtain ⟨h1, h2⟩ := ands hc
      obtain ⟨h2, h3⟩ := ands h2
      have A := allE a g e h2 ho.1
      have L := allL r g es h3 ho.2
      obtain ⟨tes, ps, sa⟩ := L.exA
      obtain ⟨tev, pv, sv⟩ := L.exV
      obtain ⟨tep, pp, sp⟩ := L.exP
      obtain ⟨t, p, s, hs⟩ := A.se.ex
      obtain ⟨to, po, so⟩ := A.se.opd
      obtain ⟨u, q, sq⟩ := A.sp.ex
      refine ⟨fun x hx => ?_, ⟨_, .cons po ps, satA_cons so sa⟩, ⟨_, .cons p pv, fun mv => satV_cons (s mv) (sv mv)⟩, ⟨_, .cons q pp, satPs_cons sq sp⟩, fun _ pos => ?_, fun _ pos => ?_, fun _ ht pos => ?_, fun _ ht pos => ?_⟩
      · rcases List.mem_cons.mp hx with rfl | hx
        · exact h1
        · exact L.nst x hx
      · cases es with
        | nil =>
          cases r with
          | cons _ _ => cases h3
          | nil => exact ⟨t, pe_one p, sat_and1 (s false)⟩
        | cons e2 es =>
          obtain ⟨t2, p2, s2⟩ := L.land rfl pos
          exact ⟨_, pe_and p p2, sat_andN (s false) s2⟩
      · cases es with
        | nil =>
          cases r with
          | cons _ _ => cases h3
          | nil => exact ⟨t, pe_one p, sat_or1 (s false)⟩
        | cons e2 es =>
          obtain ⟨t2, p2, s2⟩ := L.lor rfl pos
          exact ⟨_, pe_or p p2, sat_orN (s false) s2⟩
      · obtain ⟨h4, h5⟩ := ands ht
        obtain ⟨tt, pt, st⟩ := (A.st h4).ex
        cases es with
        | nil =>
          cases r with
          | cons _ _ => cases h3
          | nil => exact ⟨tt, pw_and1 pt, satT_and1 st⟩
        | cons e2 es =>
          obtain ⟨t2, p2, s2⟩ := L.landT rfl h5 pos
          exact ⟨_, pw_and pt p2, satT_andN st s2⟩
      · obtain ⟨h4, h5⟩ := ands ht
        obtain ⟨tt, pt, st⟩ := (A.st h4).ex
        cases es with
        | nil =>
          cases r with
          | cons _ _ => cases h3
          | nil => exact ⟨tt, pw_or1 pt, satT_or1 st⟩
        | cons e2 es =>
          obtain ⟨t2, p2, s2⟩ := L.lorT rfl h5 pos
          exact ⟨_, pw_or pt p2, satT_orN st s2⟩
end
end
end Pv

set_option maxHeartbeats 2000000
namespace Pv
open PySem PySem.Spec PyProof.Rows L2

/-! ### statements -/
inductive Fl where
  | nx (rs : List D)
  | ret (d : D) (rs : List D)
  | bk (rs : List D)
  | ct (rs : List D)
  | exc (x : Exc) (rs : List D)
inductive Tg where
  | nm (i : Nat)
  | tp (is : List Nat)
inductive It where
  | rng1 (a : E)
  | rng2 (a b : E)
  | seqL (a : E)
  | seqT (a : E)
  | enm (a : E)
  | zip (a b : E)
def okS (io : List Nat) (n i : Nat) : Bool := !io.contains i && decide (i < n)
def setAll (io : List Nat) : List Nat → List D → List D → Option (List D)
  | [], [], rs => some rs
  | i :: is, d :: ds, rs => if okS io rs.length i then setAll io is ds (rs.set i d) else none
  | _, _, _ => none
def tgA (io : List Nat) : Tg → D → List D → Option (List D)
  | .nm i, d, rs => if okS io rs.length i then some (rs.set i d) else none
  | .tp is, .tup ds, rs => setAll io is ds rs
  | _, _, _ => none
/-- the same slots at the places that are kept -/
def Kp (io : List Nat) (sg sg' : L2.St) : Prop := ∀ k ∈ io, sg'[k]? = sg[k]?
theorem Kp.refl (io : List Nat) (sg : L2.St) : Kp io sg sg := fun _ _ => rfl
theorem Kp.trans {io : List Nat} {a b c : L2.St} (h1 : Kp io a b) (h2 : Kp io b c) : Kp io a c := fun k hk => (h2 k hk).trans (h1 k hk)
theorem okS_of {io : List Nat} {n i : Nat} (h : okS io n i = true) : i ∉ io ∧ i < n := by
  unfold okS at h
  obtain ⟨h1, h2⟩ := ands h
  refine ⟨fun z => ?_, of_decide_eq_true h2⟩
  simp [List.contains_eq_mem, z] at h1
theorem Kp.set {io : List Nat} {sg : L2.St} {i : Nat} {v : Option V} (h : i ∉ io) : Kp io sg (sg.set i v) := fun k hk => by
  have : i ≠ k := fun z => h (z ▸ hk)
  rw [List.getElem?_set_ne this]
/-- what is wanted behind a statement -/
def SPost (X : Cx) (W : WX) (io : List Nat) (sg : L2.St) (G H : Hp) (fp : FP) (Dn : Ends) : Fl → Prop
  | .nx rs => ∀ sg' G' H' fp', Step X.K G H fp G' H' fp' → Kp io sg sg' → R X.K X.mg G' H' [] [] rs sg' fp' → Dn.nx sg' H'
  | .ret d rs => ∀ v sg' G' H' fp', Step X.K G H fp G' H' fp' → Kp io sg sg' → R X.K X.mg G' H' [d] [v] rs sg' fp' → Dn.rt v H'
  | .bk rs => ∀ sg' G' H' fp', Step X.K G H fp G' H' fp' → Kp io sg sg' → R X.K X.mg G' H' [] [] rs sg' fp' → Dn.bk sg' H'
  | .ct rs => ∀ sg' G' H' fp', Step X.K G H fp G' H' fp' → Kp io sg sg' → R X.K X.mg G' H' [] [] rs sg' fp' → Dn.ct sg' H'
  | .exc x rs => ∀ cls da sg' G' H' fp', Step X.K G H fp G' H' fp' → Kp io sg sg' → R X.K X.mg G' H' [] [] rs sg' fp' → XRep X.K X.mg x cls da H' → W cls da sg' H'
def SatS (X : Cx) (W : WX) (io : List Nat) (t : TS) (ev : List D → Option Fl) : Prop :=
  ∀ rs r, ev rs = some r → ∀ (sg : L2.St) (G H : Hp) (fp : FP) (Dn : Ends), R X.K X.mg G H [] [] rs sg fp → SPost X W io sg G H fp Dn r → t Dn sg H
section
variable {X : Cx} {W : WX} {c : Ce} {km : Nat} {io : List Nat}
theorem SPost.step {sg sg1 : L2.St} {G H G1 H1 : Hp} {fp f1 : FP} {Dn : Ends} {r : Fl} (h : SPost X W io sg G H fp Dn r) (st : Step X.K G H fp G1 H1 f1) (kp : Kp io sg sg1) : SPost X W io sg1 G1 H1 f1 Dn r := by
  cases r with
  | nx rs => exact fun sg' G' H' fp' s k r => h sg' G' H' fp' (st.trans s) (kp.trans k) r
  | ret d rs => exact fun v sg' G' H' fp' s k r => h v sg' G' H' fp' (st.trans s) (kp.trans k) r
  | bk rs => exact fun sg' G' H' fp' s k r => h sg' G' H' fp' (st.trans s) (kp.trans k) r
  | ct rs => exact fun sg' G' H' fp' s k r => h sg' G' H' fp' (st.trans s) (kp.trans k) r
  | exc x rs => exact fun cls da sg' G' H' fp' s k r xr => h cls da sg' G' H' fp' (st.trans s) (kp.trans k) r xr
/-- other ends, the same exceptions -/
theorem SPost.ends {sg : L2.St} {G H : Hp} {fp : FP} {Dn : Ends} {x : Exc} {rs : List D} (Dm : Ends) (h : SPost X W io sg G H fp Dn (.exc x rs)) : SPost X W io sg G H fp Dm (.exc x rs) := h
theorem SPost.xp {sg : L2.St} {G H : Hp} {fp : FP} {Dn : Ends} {x : Exc} {rs : List D} (h : SPost X W io sg G H fp Dn (.exc x rs)) : XP X W x rs sg G H fp := fun cls da G' H' fp' st r xr => h cls da sg G' H' fp' st (Kp.refl _ _) r xr
def Fl.bd (r : Option Fl) (f : List D → Option Fl) : Option Fl := match r with
  | some (.nx rs) => f rs
  | r => r
theorem satS_nil : SatS X W io tNext (fun rs => some (.nx rs)) := by
  intro rs r e sg G H fp Dn hR h
  cases e
  exact h sg G H fp .refl (Kp.refl _ _) hR
theorem satS_seq {t u : TS} {ev evs : List D → Option Fl} (h1 : SatS X W io t ev) (h2 : SatS X W io u evs) : SatS X W io (tSeq t u) (fun rs => Fl.bd (ev rs) evs) := by
  intro rs r e sg G H fp Dn hR h
  dsimp only at e
  cases q : ev rs with
  | none => rw [q] at e; cases e
  | some r1 =>
    rw [q] at e
    refine h1 rs r1 q sg G H fp { Dn with nx := u Dn } hR ?_
    cases r1 with
    | nx rs1 => exact fun sg' G' H' fp' st kp r' => h2 rs1 r e sg' G' H' fp' Dn r' (h.step st kp)
    | ret d rs1 => cases e; exact h
    | bk rs1 => cases e; exact h
    | ct rs1 => cases e; exact h
    | exc x rs1 => cases e; exact h
/-- a value is reckoned; then goes on with it on the pile -/
theorem sat_then {t : TE} {ev : List D → Option (Res D)} (h : Sat X W t ev) {f : D → List D → Option Fl} {g : V → L2.St → Hp → Prop} {rs : List D} {r : Fl} {sg : L2.St} {G H : Hp} {fp : FP} {Dn : Ends}
    (e : (match ev rs with
      | some (.ok d rs1) => f d rs1
      | some (.exc x rs1) => some (.exc x rs1)
      | none => none) = some r) (hR : R X.K X.mg G H [] [] rs sg fp) (hp : SPost X W io sg G H fp Dn r)
    (hf : ∀ d rs1, ev rs = some (.ok d rs1) → f d rs1 = some r → ∀ v G' H' fp', Step X.K G H fp G' H' fp' → R X.K X.mg G' H' [d] [v] rs1 sg fp' → SPost X W io sg G' H' fp' Dn r → g v sg H') : t sg H (fun v H' => g v sg H') := by
  cases q : ev rs with
  | none => rw [q] at e; cases e
  | some r1 =>
    rw [q] at e
    refine h rs r1 q sg G H [] [] fp _ hR (fun d rs1 er v G' H' fp' st r' => ?_) (fun x rs1 er => ?_)
    · subst er
      exact hf d rs1 q e v G' H' fp' st r' (hp.step st (Kp.refl _ _))
    · subst er
      cases e
      exact hp.xp
def thenE (r : Option (Res D)) (f : D → List D → Option Fl) : Option Fl := match r with
  | some (.ok d rs1) => f d rs1
  | some (.exc x rs1) => some (.exc x rs1)
  | none => none
/-- targets -/
def SatG (X : Cx) (io : List Nat) (g : TG) (f : D → List D → Option (List D)) : Prop :=
  ∀ d rs rs', f d rs = some rs' → ∀ (v : V) (sg : L2.St) (G H : Hp) (ts : List D) (tv : List V) (fp : FP) (Q : L2.St → Hp → Prop), R X.K X.mg G H (d :: ts) (v :: tv) rs sg fp →
    (∀ sg' H' fp', Step X.K G H fp G H' fp' → Kp io sg sg' → R X.K X.mg G H' ts tv rs' sg' fp' → Q sg' H') → g v sg H Q
theorem satG_nm {i : Nat} : SatG X io (gName i) (tgA io (.nm i)) := by
  intro d rs rs' e v sg G H ts tv fp Q hR h
  simp only [tgA] at e
  split at e
  · rename_i ho
    cases e
    obtain ⟨h1, h2⟩ := okS_of ho
    obtain ⟨f', r', st⟩ := hR.put h2
    exact h _ H f' st (.set h1) r'
  · cases e
def gNames : List Nat → TGs
  | [] => gNil
  | i :: is => gCons (gName i) (gNames is)
theorem satGs : ∀ {is : List Nat} {ds rs rs' : List D}, setAll io is ds rs = some rs' → ∀ {vs : List V} {sg : L2.St} {G H : Hp} {ts : List D} {tv : List V} {fp : FP} {Q : L2.St → Hp → Prop}, ds.length = vs.length → R X.K X.mg G H (ds ++ ts) (vs ++ tv) rs sg fp →
    (∀ sg' fp', Step X.K G H fp G H fp' → Kp io sg sg' → R X.K X.mg G H ts tv rs' sg' fp' → Q sg' H) → gNames is vs sg H Q
  | [], [], rs, rs', e, [], sg, G, H, ts, tv, fp, Q, el, hR, h => by
    cases e
    exact ⟨rfl, h sg fp .refl (Kp.refl _ _) hR⟩
  | i :: is, d :: ds, rs, rs', e, v :: vs, sg, G, H, ts, tv, fp, Q, el, hR, h => by
    simp only [setAll] at e
    split at e
    · rename_i ho
      obtain ⟨h1, h2⟩ := okS_of ho
      obtain ⟨f', r', st⟩ := (show R X.K X.mg G H (d :: (ds ++ ts)) (v :: (vs ++ tv)) rs sg fp from hR).put h2
      exact ⟨v, vs, rfl, satGs e (by simpa using el) r' fun sg' fp' st' kp r => h sg' fp' (st.trans st') ((Kp.set h1).trans kp) r⟩
    · cases e
  | [], _ :: _, _, _, e, _, _, _, _, _, _, _, _, _, _, _ => by simp [setAll] at e
  | _ :: _, [], _, _, e, _, _, _, _, _, _, _, _, _, _, _ => by simp [setAll] at e
  | [], [], _, _, _, _ :: _, _, _, _, _, _, _, _, el, _, _ => by simp at el
  | _ :: _, _ :: _, _, _, _, [], _, _, _, _, _, _, _, el, _, _ => by simp at el
theorem setAll_len : ∀ {is : List Nat} {ds rs rs' : List D}, setAll io is ds rs = some rs' → ds.length = is.length
  | [], [], _, _, _ => rfl
  | i :: is, d :: ds, rs, rs', e => by
    simp only [setAll] at e
    split at e
    · simp [setAll_len e]
    · cases e
  | [], _ :: _, _, _, e => by simp [setAll] at e
  | _ :: _, [], _, _, e => by simp [setAll] at e
theorem satG_tp {is : List Nat} : SatG X io (gTup X.K is.length (gNames is)) (tgA io (.tp is)) := by
  intro d rs rs' e v sg G H ts tv fp Q hR h
  cases d <;> first | (cases e; done) | skip
  rename_i ds
  simp only [tgA] at e
  obtain ⟨f1, f2, k1, r2, dj, ef⟩ := hR.top
  simp only [Rep] at k1
  obtain ⟨a, vs, rfl, hs, hr⟩ := k1
  have r3 := r2.pushN hr dj fun a o hg z => (hR.sub a o hg).2 ((ef a).2 (.inl z))
  have st : Step X.K G H fp G H (fun a => f1 a ∨ f2 a) := .less fun a z => (ef a).2 z
  exact ⟨a, vs, rfl, hs, by rw [← reps_len hr, setAll_len e], satGs e (reps_len hr) r3 fun sg' fp' st' kp r => h sg' H fp' (st.trans st') kp r⟩

/-! ### one lemma a statement -/
/-- target = value -/
theorem satS_asg {te : TE} {g : TG} {ev : List D → Option (Res D)} {f : D → List D → Option (List D)} (h : Sat X W te ev) (hg : SatG X io g f) : SatS X W io (tAsg te g) (fun rs => thenE (ev rs) fun d rs1 => ob (f d rs1) fun rs2 => some (.nx rs2)) := by
  intro rs r e sg G H fp Dn hR hp
  refine sat_then (f := fun d rs1 => ob (f d rs1) fun rs2 => some (.nx rs2)) (g := fun v sg H' => g v sg H' Dn.nx) h e hR hp fun d rs1 _ e v G' H' f' st r' hp => ?_
  obtain ⟨rs2, q, e⟩ := ob_some e
  cases e
  exact hg d rs1 rs2 q v sg G' H' [] [] f' _ r' fun sg' H2 f2 st2 kp r2 => hp sg' G' H2 f2 st2 kp r2
theorem satS_ret {te : TE} {ev : List D → Option (Res D)} (h : Sat X W te ev) : SatS X W io (tRet te) (fun rs => thenE (ev rs) fun d rs1 => some (.ret d rs1)) := by
  intro rs r e sg G H fp Dn hR hp
  refine sat_then (f := fun d rs1 => some (.ret d rs1)) (g := fun v sg H' => Dn.rt v H') h e hR hp fun d rs1 _ e v G' H' f' st r' hp => ?_
  cases e
  exact hp v sg G' H' f' .refl (Kp.refl _ _) r'
theorem satS_retN : SatS X W io tRetN (fun rs => some (.ret .non rs)) := by
  intro rs r e sg G H fp Dn hR hp
  cases e
  exact hp .non sg G H fp .refl (Kp.refl _ _) (hR.pushE rep_non)
theorem satS_expr {te : TE} {ev : List D → Option (Res D)} (h : Sat X W te ev) : SatS X W io (tDrop te) (fun rs => thenE (ev rs) fun d rs1 => some (.nx rs1)) := by
  intro rs r e sg G H fp Dn hR hp
  refine sat_then (f := fun d rs1 => some (.nx rs1)) (g := fun v sg H' => Dn.nx sg H') h e hR hp fun d rs1 _ e v G' H' f' st r' hp => ?_
  cases e
  obtain ⟨f2, r2, st2⟩ := r'.drop
  exact hp sg G' H' f2 st2 (Kp.refl _ _) r2
theorem satS_bk : SatS X W io tBreak (fun rs => some (.bk rs)) := by
  intro rs r e sg G H fp Dn hR hp
  cases e
  exact hp sg G H fp .refl (Kp.refl _ _) hR
theorem satS_ct : SatS X W io tCont (fun rs => some (.ct rs)) := by
  intro rs r e sg G H fp Dn hR hp
  cases e
  exact hp sg G H fp .refl (Kp.refl _ _) hR
def thenT (r : Option (Res Bool)) (f : Bool → List D → Option Fl) : Option Fl := match r with
  | some (.ok d rs1) => f d rs1
  | some (.exc x rs1) => some (.exc x rs1)
  | none => none
theorem satS_if {tc : TT} {t u : TS} {ec : List D → Option (Res Bool)} {ea eb : List D → Option Fl} (hc : SatT X W tc ec) (ha : SatS X W io t ea) (hb : SatS X W io u eb) : SatS X W io (tIfS tc t u) (fun rs => thenT (ec rs) fun b rs1 => if b then ea rs1 else eb rs1) := by
  intro rs r e sg G H fp Dn hR hp
  dsimp only at e
  cases q : ec rs with
  | none => rw [q] at e; cases e
  | some r1 =>
    rw [q] at e
    refine hc rs r1 q sg G H [] [] fp _ hR (fun b rs1 er G' H' fp' st r' => ?_) (fun x rs1 er => ?_)
    · subst er
      cases b with
      | true =>
        simp only [thenT, if_true] at e ⊢
        exact ha rs1 r e sg G' H' fp' Dn r' (hp.step st (Kp.refl _ _))
      | false =>
        simp only [thenT, Bool.false_eq_true, if_false] at e ⊢
        exact hb rs1 r e sg G' H' fp' Dn r' (hp.step st (Kp.refl _ _))
    · subst er
      cases e
      exact hp.xp
/-- while -/
def whlL (cond : List D → Option (Res Bool)) (body : List D → Option Fl) : Nat → List D → Option Fl
  | 0, _ => none
  | n + 1, rs => thenT (cond rs) fun b rs1 => if b then
      match body rs1 with
      | some (.nx rs2) => whlL cond body n rs2
      | some (.ct rs2) => whlL cond body n rs2
      | some (.bk rs2) => some (.nx rs2)
      | r => r
    else some (.nx rs1)
theorem satS_whl {tc : TT} {tb : TS} {ec : List D → Option (Res Bool)} {eb : List D → Option Fl} (hc : SatT X W tc ec) (hb : SatS X W io tb eb) (n : Nat) : SatS X W io (tWhile tc tb) (whlL ec eb n) := by
  intro rs r e sg G H fp Dn hR hp
  refine ⟨fun m sg' H' => ∃ rs' G' fp', whlL ec eb m rs' = some r ∧ Step X.K G H fp G' H' fp' ∧ Kp io sg sg' ∧ R X.K X.mg G' H' [] [] rs' sg' fp', ⟨n, rs, G, fp, e, .refl, Kp.refl _ _, hR⟩, ?_⟩
  rintro m sg1 H1 ⟨rs1, G1, f1, e1, st1, kp1, r1⟩
  cases m with
  | zero => cases e1
  | succ m =>
    simp only [whlL] at e1
    cases q : ec rs1 with
    | none => rw [q] at e1; cases e1
    | some r2 =>
      rw [q] at e1
      refine hc rs1 r2 q sg1 G1 H1 [] [] f1 _ r1 (fun b rs2 er G2 H2 f2 st2 r2' => ?_) (fun x rs2 er => ?_)
      · subst er
        cases b with
        | false =>
          simp only [thenT, Bool.false_eq_true, if_false] at e1 ⊢
          cases e1
          exact hp sg1 G2 H2 f2 (st1.trans st2) kp1 r2'
        | true =>
          simp only [thenT, if_true] at e1 ⊢
          refine ⟨fun sg' H' => ∃ rs' G' fp', whlL ec eb m rs' = some r ∧ Step X.K G H fp G' H' fp' ∧ Kp io sg sg' ∧ R X.K X.mg G' H' [] [] rs' sg' fp', fun sg' H' h => ⟨m, Nat.lt_succ_self m, h⟩, ?_⟩
          cases q3 : eb rs2 with
          | none => rw [q3] at e1; cases e1
          | some r3 =>
            rw [q3] at e1
            refine hb rs2 r3 q3 sg1 G2 H2 f2 _ r2' ?_
            cases r3 with
            | nx rs3 => exact fun sg' G' H' fp' st kp r' => ⟨rs3, G', fp', e1, (st1.trans st2).trans st, kp1.trans kp, r'⟩
            | ct rs3 => exact fun sg' G' H' fp' st kp r' => ⟨rs3, G', fp', e1, (st1.trans st2).trans st, kp1.trans kp, r'⟩
            | bk rs3 =>
              cases e1
              exact fun sg' G' H' fp' st kp r' => hp sg' G' H' fp' ((st1.trans st2).trans st) (kp1.trans kp) r'
            | ret d rs3 =>
              cases e1
              exact fun v sg' G' H' fp' st kp r' => hp v sg' G' H' fp' ((st1.trans st2).trans st) (kp1.trans kp) r'
            | exc x rs3 =>
              cases e1
              exact fun cls da sg' G' H' fp' st kp r' xr => hp cls da sg' G' H' fp' ((st1.trans st2).trans st) (kp1.trans kp) r' xr
      · subst er
        cases e1
        exact fun cls da G' H' fp' st r' xr => hp cls da sg1 G' H' fp' (st1.trans st) kp1 r' xr
/-- what a loop walks -/
structure ItOk (K : Fr) (mg : Str → Option Value) (G H0 : Hp) (J : L2.It) (items : List D) : Prop where
  go : ∀ i H, i < items.length → (∀ a o, G a = some o → H a = some o) → J.go i H
  yld : ∀ i H x H' d, items[i]? = some d → (∀ a o, G a = some o → H a = some o) → (∀ a vs, SqT K H0 a vs → SqT K H a vs) → J.yld i H x H' → (∀ a o, H a = some o → H' a = some o) ∧ Rep K mg G H' d x (fun _ => False)
  stop : ∀ i H, items.length ≤ i → (∀ a o, G a = some o → H a = some o) → J.stop i H
def SatI (X : Cx) (W : WX) (wi : TI) (ev : List D → Option (Res (List D))) : Prop :=
  ∀ rs r, ev rs = some r → ∀ (sg : L2.St) (G H : Hp) (ts : List D) (tv : List V) (fp : FP) (Rk : L2.It → Hp → Prop), R X.K X.mg G H ts tv rs sg fp →
    (∀ ds rs', r = .ok ds rs' → ∀ J G' H' fp', Step X.K G H fp G' H' fp' → R X.K X.mg G' H' ts tv rs' sg fp' → ItOk X.K X.mg G' H' J ds → Rk J H') →
    (∀ x rs', r = .exc x rs' → XP X W x rs' sg G H fp) → wi sg H Rk
def forL (asg : D → List D → Option (List D)) (body : List D → Option Fl) : List D → List D → Option Fl
  | [], rs => some (.nx rs)
  | d :: ds, rs => ob (asg d rs) fun rs1 => match body rs1 with
    | some (.nx rs2) => forL asg body ds rs2
    | some (.ct rs2) => forL asg body ds rs2
    | some (.bk rs2) => some (.nx rs2)
    | r => r
def thenI (r : Option (Res (List D))) (f : List D → List D → Option Fl) : Option Fl := match r with
  | some (.ok d rs1) => f d rs1
  | some (.exc x rs1) => some (.exc x rs1)
  | none => none
theorem Step.ext {K : Fr} {G H H' : Hp} {fp : FP} (h : ∀ a o, H a = some o → H' a = some o) : Step K G H fp G H' fp := by
  refine ⟨fun a o e _ => h a o e, fun a vs e => ?_, fun a z => .inr z, fun _ _ e => e, fun a o e => .inl e⟩
  rcases e with (e | ⟨u, e⟩) | e
  · exact .inl (.inl (h _ _ e))
  · exact .inl (.inr ⟨u, h _ _ e⟩)
  · exact .inr e
theorem drop_cons {A : Type} {l : List A} {i : Nat} {x : A} (h : l[i]? = some x) : l.drop i = x :: l.drop (i + 1) := by
  obtain ⟨hl, e⟩ := List.getElem?_eq_some_iff.mp h
  rw [List.drop_eq_getElem_cons hl, e]
theorem satS_for {wi : TI} {g : TG} {tb : TS} {ei : List D → Option (Res (List D))} {f : D → List D → Option (List D)} {eb : List D → Option Fl} (hi : SatI X W wi ei) (hg : SatG X io g f) (hb : SatS X W io tb eb) :
    SatS X W io (tFor wi g tb) (fun rs => thenI (ei rs) fun ds rs1 => forL f eb ds rs1) := by
  intro rs r e sg G H fp Dn hR hp
  dsimp only at e
  cases q : ei rs with
  | none => rw [q] at e; cases e
  | some r1 =>
    rw [q] at e
    refine hi rs r1 q sg G H [] [] fp _ hR (fun ds rs1 er J G1 H1 f1 st1 R1 ok => ?_) (fun x rs1 er => ?_)
    · subst er
      have e : forL f eb ds rs1 = some r := e
      refine ⟨fun i m sg' H' => m = ds.length - i ∧ i ≤ ds.length ∧ ∃ rs' G' fp', forL f eb (ds.drop i) rs' = some r ∧ Step X.K G1 H1 f1 G' H' fp' ∧ Kp io sg sg' ∧ R X.K X.mg G' H' [] [] rs' sg' fp', ⟨ds.length, by simp, Nat.zero_le _, rs1, G1, f1, by simpa using e, .refl, Kp.refl _ _, R1⟩, ?_⟩
      rintro i m sg2 H2 ⟨rfl, hil, rs2, G2, f2, e2, st2, kp2, R2⟩
      have gh : ∀ a o, G1 a = some o → H2 a = some o := fun a o h => (R2.sub a o (st2.grow a o h)).1
      by_cases hlt : i < ds.length
      · obtain ⟨d, hd⟩ : ∃ d, ds[i]? = some d := ⟨_, List.getElem?_eq_getElem hlt⟩
        rw [drop_cons hd] at e2
        refine .inr ⟨ok.go i H2 hlt gh, fun sg' H' => ∃ rs' G' fp', forL f eb (ds.drop (i + 1)) rs' = some r ∧ Step X.K G1 H1 f1 G' H' fp' ∧ Kp io sg sg' ∧ R X.K X.mg G' H' [] [] rs' sg' fp', fun sg' H' h => ⟨ds.length - (i + 1), by omega, rfl, hlt, h⟩, fun x H3 hy => ?_⟩
        obtain ⟨hx, hrep⟩ := ok.yld i H2 x H3 d hd gh st2.tups hy
        have st3 : Step X.K G2 H2 f2 G2 H3 f2 := .ext hx
        have R3 := R2.mono st3.tups (fun a o _ h => hx a o h) fun a o h => hx a o (R2.sub a o h).1
        have rp : Rep X.K X.mg G2 H3 d x (fun _ => False) := rep_mono st2.grow (fun _ _ h => h) d (fun _ _ z => z.elim) hrep
        have R4 := R3.pushE rp
        simp only [forL] at e2
        obtain ⟨rs3, q3, e2⟩ := ob_some e2
        refine hg d rs2 rs3 q3 x sg2 G2 H3 [] [] f2 _ R4 fun sg4 H4 f4 st4 kp4 R5 => ?_
        cases q5 : eb rs3 with
        | none => rw [q5] at e2; cases e2
        | some r5 =>
          rw [q5] at e2
          have st5 := (st2.trans st3).trans st4
          refine hb rs3 r5 q5 sg4 G2 H4 f4 _ R5 ?_
          cases r5 with
          | nx rs6 => exact fun sg' G' H' fp' st kp r' => ⟨rs6, G', fp', e2, st5.trans st, (kp2.trans kp4).trans kp, r'⟩
          | ct rs6 => exact fun sg' G' H' fp' st kp r' => ⟨rs6, G', fp', e2, st5.trans st, (kp2.trans kp4).trans kp, r'⟩
          | bk rs6 =>
            cases e2
            exact fun sg' G' H' fp' st kp r' => hp sg' G' H' fp' ((st1.trans st5).trans st) ((kp2.trans kp4).trans kp) r'
          | ret d rs6 =>
            cases e2
            exact fun v sg' G' H' fp' st kp r' => hp v sg' G' H' fp' ((st1.trans st5).trans st) ((kp2.trans kp4).trans kp) r'
          | exc x rs6 =>
            cases e2
            exact fun cls da sg' G' H' fp' st kp r' xr => hp cls da sg' G' H' fp' ((st1.trans st5).trans st) ((kp2.trans kp4).trans kp) r' xr
      · have ei' : i = ds.length := by omega
        subst ei'
        rw [List.drop_length] at e2
        cases e2
        exact .inl ⟨ok.stop _ H2 (Nat.le_refl _) gh, hp sg2 G2 H2 f2 (st1.trans st2) kp2 R2⟩
    · subst er
      cases e
      exact hp.xp
end
end Pv

set_option maxHeartbeats 2000000
namespace Pv
open PySem PySem.Spec PyProof.Rows L2
section
variable {X : Cx} {W : WX} {c : Ce} {km : Nat} {io : List Nat}
/-! ### what is walked -/
def rngD (lo : Int) (n : Nat) : List D := (List.range n).map fun i => .int (lo + (i : Nat))
def rngB (n : Int) : Bool := decide (-4611686018427387904 ≤ n) && decide (n < 4611686018427387904)
theorem rngB_of {n : Int} (h : rngB n = true) : -(2 ^ 62) ≤ n ∧ n < 2 ^ 62 := by
  obtain ⟨h1, h2⟩ := ands h
  have e : (2 : Int) ^ 62 = 4611686018427387904 := by decide
  rw [e]
  exact ⟨of_decide_eq_true h1, of_decide_eq_true h2⟩
def itRng (ds : List D) : Option (List D) := match ds with
  | [.int n] => if rngB n then some (rngD 0 n.toNat) else none
  | [.int a, .int b] => if rngB a && rngB b then some (rngD a (b - a).toNat) else none
  | _ => none
theorem rng_ok {K : Fr} {mg : Str → Option Value} {G H0 : Hp} {lo : Int} {n : Nat} : ItOk K mg G H0 (Itr lo n) (rngD lo n) where
  go := fun i H h _ => by
    show i < n
    simpa [rngD] using h
  yld := fun i H x H' d e _ _ hy => by
    obtain ⟨e1, e2⟩ := hy
    subst e1 e2
    simp only [rngD, List.getElem?_map] at e
    obtain ⟨j, hj, rfl⟩ := Option.map_eq_some_iff.mp e
    have : j = i := by
      obtain ⟨hl, q⟩ := List.getElem?_eq_some_iff.mp hj
      rw [List.getElem_range] at q
      exact q.symm
    subst this
    exact ⟨fun _ _ h => h, rep_int⟩
  stop := fun i H h _ => by
    show n ≤ i
    simpa [rngD] using h
theorem satI_rng1 {tes : List TE} {as : Es} (h : SatA X W tes (evA as)) : SatI X W (iRng1 (runs tes)) (fun rs => Res.bd (evA as rs) fun as rs1 => match as.map (res rs1) with
    | [.int n] => if rngB n then some (.ok (rngD 0 n.toNat) rs1) else none
    | _ => none) := by
  intro rs r e sg G H ts tv fp Rk hR h1 h2
  rcases bd_some e with ⟨as', rs1, q, e⟩ | ⟨x, rs1, q, e⟩
  · refine h rs _ q sg G H ts tv fp _ hR (fun as2 rs' er vs va G' H' f' st r' ar => ?_) (fun x rs' er => by cases er)
    cases er
    have vw := views r' ar
    split at e
    · rename_i n en
      rw [en] at vw
      obtain ⟨v, rfl, hv⟩ := vws1 vw
      cases vw_int hv
      split at e
      · rename_i hn
        cases e
        obtain ⟨f2, r2, st2⟩ := r'.dropN (by simp [ar.len.1])
        exact ⟨n, rfl, (rngB_of hn).1, (rngB_of hn).2, h1 _ _ rfl _ _ _ _ (st.trans st2) r2 rng_ok⟩
      · cases e
    · cases e
  · subst e
    exact h rs _ q sg G H ts tv fp _ hR (fun d' rs' er => by cases er) (fun x' rs' er => by cases er; exact h2 _ _ rfl)
theorem satI_rng2 {tes : List TE} {as : Es} (h : SatA X W tes (evA as)) : SatI X W (iRng2 (runs tes)) (fun rs => Res.bd (evA as rs) fun as rs1 => match as.map (res rs1) with
    | [.int a, .int b] => if rngB a && rngB b then some (.ok (rngD a (b - a).toNat) rs1) else none
    | _ => none) := by
  intro rs r e sg G H ts tv fp Rk hR h1 h2
  rcases bd_some e with ⟨as', rs1, q, e⟩ | ⟨x, rs1, q, e⟩
  · refine h rs _ q sg G H ts tv fp _ hR (fun as2 rs' er vs va G' H' f' st r' ar => ?_) (fun x rs' er => by cases er)
    cases er
    have vw := views r' ar
    split at e
    · rename_i n m en
      rw [en] at vw
      obtain ⟨v, w, rfl, hv, hw⟩ := vws2 vw
      cases vw_int hv; cases vw_int hw
      split at e
      · rename_i hn
        obtain ⟨hn, hm⟩ := ands hn
        cases e
        obtain ⟨f2, r2, st2⟩ := r'.dropN (by simp [ar.len.1])
        exact ⟨n, m, rfl, ⟨(rngB_of hn).1, (rngB_of hn).2, (rngB_of hm).1, (rngB_of hm).2⟩, h1 _ _ rfl _ _ _ _ (st.trans st2) r2 rng_ok⟩
      · cases e
    · cases e
  · subst e
    exact h rs _ q sg G H ts tv fp _ hR (fun d' rs' er => by cases er) (fun x' rs' er => by cases er; exact h2 _ _ rfl)
def lItems : D → Option (List D)
  | .lst _ xs => some xs
  | _ => none
def tItems : D → Option (List D)
  | .tup xs => some xs
  | _ => none
theorem sqL_sub {K : Fr} {G H : Hp} {a : Addr} {vs : List V} (h : SqL K G a vs) (hg : ∀ a o, G a = some o → H a = some o) : SqL K H a vs := by
  rcases h with (h | ⟨o, h⟩) | h
  · exact .inl (.inl (hg _ _ h))
  · exact .inl (.inr ⟨o, hg _ _ h⟩)
  · exact .inr h
theorem sqT_ex {K : Fr} {H H' : Hp} {a : Addr} {vs : List V} (h : SqT K H a vs) (hg : ∀ a o, H a = some o → H' a = some o) : SqT K H' a vs := by
  rcases h with (h | ⟨o, h⟩) | h
  · exact .inl (.inl (hg _ _ h))
  · exact .inl (.inr ⟨o, hg _ _ h⟩)
  · exact .inr h
/-- a frozen list | tuple, to be walked -/
theorem fz_list {K : Fr} {mg : Str → Option Value} {G H : Hp} {ts : List D} {tv : List V} {rs : List D} {sg : L2.St} {fp : FP} {d : D} {v : V} {xs : List D} (r : R K mg G H (d :: ts) (v :: tv) rs sg fp) (e : lItems (fz d) = some xs) :
    ∃ G' fp' a vs, v = .ref a ∧ R K mg G' H ts tv rs sg fp' ∧ Step K G H fp G' H fp' ∧ SqL K G' a vs ∧ Reps K mg G' H xs vs (fun _ => False) := by
  obtain ⟨G1, f1, r1, st1⟩ := r.fz
  obtain ⟨g1, g2, k1, _, _, _⟩ := r1.top
  obtain ⟨f2, r2, st2⟩ := r1.drop
  cases d <;> first | (cases e; done) | skip
  rename_i o ys
  cases e
  simp only [fz, Rep] at k1
  obtain ⟨a, vs, rfl, hs, hr, hn⟩ := k1
  exact ⟨G1, f2, a, vs, rfl, r2, st1.trans st2, hs, reps_iff hr fun a => ⟨fun z => hn a z, fun z => z.elim⟩⟩
theorem fz_tup {K : Fr} {mg : Str → Option Value} {G H : Hp} {ts : List D} {tv : List V} {rs : List D} {sg : L2.St} {fp : FP} {d : D} {v : V} {xs : List D} (r : R K mg G H (d :: ts) (v :: tv) rs sg fp) (e : tItems (fz d) = some xs) :
    ∃ G' fp' a vs, v = .ref a ∧ R K mg G' H ts tv rs sg fp' ∧ Step K G H fp G' H fp' ∧ SqT K H a vs ∧ Reps K mg G' H xs vs (fun _ => False) := by
  have hfz := isFz_fz d
  obtain ⟨G1, f1, r1, st1⟩ := r.fz
  obtain ⟨g1, g2, k1, _, _, _⟩ := r1.top
  obtain ⟨f2, r2, st2⟩ := r1.drop
  cases d <;> first | (cases e; done) | skip
  rename_i ys
  cases e
  have hem := rep_emp (fz (.tup ys)) hfz k1
  simp only [fz, Rep] at k1
  obtain ⟨a, vs, rfl, hs, hr⟩ := k1
  exact ⟨G1, f2, a, vs, rfl, r2, st1.trans st2, hs, reps_iff hr fun a => ⟨fun z => hem a z, fun z => z.elim⟩⟩
theorem reps_at {K : Fr} {mg : Str → Option Value} {G H : Hp} {xs : List D} {vs : List V} {i : Nat} {d : D} (h : Reps K mg G H xs vs (fun _ => False)) (e : xs[i]? = some d) : ∃ v, vs[i]? = some v ∧ Rep K mg G H d v (fun _ => False) := by
  obtain ⟨w, f1, h1, h2, h3⟩ := reps_item h e
  exact ⟨w, h1, rep_iff h2 fun a => ⟨fun z => h3 a z, fun z => z.elim⟩⟩
theorem seqL_ok {K : Fr} {mg : Str → Option Value} {G H0 : Hp} {a : Addr} {vs : List V} {xs : List D} (hs : SqL K G a vs) (hr : Reps K mg G H0 xs vs (fun _ => False)) : ItOk K mg G H0 (Itl K a) xs where
  go := fun i H h hg => by
    obtain ⟨v, hv, _⟩ := reps_at hr (List.getElem?_eq_getElem h)
    exact ⟨vs, v, sqL_sub hs hg, hv⟩
  yld := fun i H x H' d e hg ht hy => by
    obtain ⟨e1, hy⟩ := hy
    subst e1
    obtain ⟨v, hv, rp⟩ := reps_at hr e
    have q := Option.some.inj (hv.symm.trans (hy vs (sqL_sub hs hg)))
    subst q
    exact ⟨fun _ _ h => h, rep_mono (fun _ _ h => h) ht d (fun _ _ z => z.elim) rp⟩
  stop := fun i H h hg => ⟨vs, sqL_sub hs hg, by rw [← reps_len hr]; exact h⟩
theorem satI_seqL {te : TE} {a : E} (h : Sat X W te (evE a false)) : SatI X W (iList X.K te) (fun rs => Res.bd (evE a false rs) fun d rs1 => ob (lItems (fz d)) fun xs => some (.ok xs rs1)) := by
  intro rs r e sg G H ts tv fp Rk hR h1 h2
  rcases bd_some e with ⟨d, rs1, q, e⟩ | ⟨x, rs1, q, e⟩
  · refine h rs _ q sg G H ts tv fp _ hR (fun d' rs' er v G' H' f' st r' => ?_) (fun x rs' er => by cases er)
    cases er
    obtain ⟨xs, qx, e⟩ := ob_some e
    cases e
    obtain ⟨G2, f2, a, vs, rfl, r2, st2, hs, hr⟩ := fz_list r' qx
    exact ⟨a, rfl, ⟨vs, sqL_sub hs fun a o h => (r2.sub a o h).1⟩, h1 _ _ rfl _ _ _ _ (st.trans st2) r2 (seqL_ok hs hr)⟩
  · subst e
    exact h rs _ q sg G H ts tv fp _ hR (fun d' rs' er => by cases er) (fun x' rs' er => by cases er; exact h2 _ _ rfl)
theorem seqT_ok {K : Fr} {mg : Str → Option Value} {G H0 : Hp} {a : Addr} {vs : List V} {xs : List D} (hs : SqT K H0 a vs) (hr : Reps K mg G H0 xs vs (fun _ => False)) (ht0 : ∀ H : Hp, (∀ a o, G a = some o → H a = some o) → SqT K H a vs) : ItOk K mg G H0 (Itt K a) xs where
  go := fun i H h hg => by
    obtain ⟨v, hv, _⟩ := reps_at hr (List.getElem?_eq_getElem h)
    exact ⟨vs, v, ht0 H hg, hv⟩
  yld := fun i H x H' d e hg ht hy => by
    obtain ⟨e1, hy⟩ := hy
    subst e1
    obtain ⟨v, hv, rp⟩ := reps_at hr e
    have q := Option.some.inj (hv.symm.trans (hy vs (ht a vs hs)))
    subst q
    exact ⟨fun _ _ h => h, rep_mono (fun _ _ h => h) ht d (fun _ _ z => z.elim) rp⟩
  stop := fun i H h hg => ⟨vs, ht0 H hg, by rw [← reps_len hr]; exact h⟩
def enumD : Nat → List D → List D
  | _, [] => []
  | i, d :: ds => .tup [.int (i : Nat), d] :: enumD (i + 1) ds
theorem enumD_len : ∀ (ds : List D) (i : Nat), (enumD i ds).length = ds.length
  | [], _ => rfl
  | d :: ds, i => by simp [enumD, enumD_len ds]
theorem enumD_get : ∀ {ds : List D} {k i : Nat} {e : D}, (enumD k ds)[i]? = some e → ∃ d, ds[i]? = some d ∧ e = .tup [.int ((k + i : Nat) : Int), d]
  | d :: ds, k, 0, e, h => by cases h; exact ⟨d, rfl, rfl⟩
  | d :: ds, k, i + 1, e, h => by
    obtain ⟨d', h1, h2⟩ := enumD_get (ds := ds) (k := k + 1) (i := i) (by simpa [enumD] using h)
    exact ⟨d', by simpa using h1, by rw [h2]; congr 3; omega⟩
  | [], _, _, _, h => by simp [enumD] at h
theorem rep_pair {K : Fr} {mg : Str → Option Value} {G H : Hp} {T : Addr} {x y : V} {d e : D} (h : H T = some (.tup [x, y])) (h1 : Rep K mg G H d x (fun _ => False)) (h2 : Rep K mg G H e y (fun _ => False)) : Rep K mg G H (.tup [d, e]) (.ref T) (fun _ => False) := by
  simp only [Rep]
  refine ⟨T, [x, y], rfl, .inl (.inl h), ?_⟩
  simp only [Reps]
  exact ⟨_, fun _ => False, h1, ⟨_, fun _ => False, h2, fun _ z => z, fun _ z => z.elim, fun a => by simp⟩, fun _ z => z.elim, fun a => by simp⟩
theorem enm_ok {K : Fr} {mg : Str → Option Value} {G H0 : Hp} {a : Addr} {vs : List V} {xs : List D} (hs : SqL K G a vs) (hr : Reps K mg G H0 xs vs (fun _ => False)) : ItOk K mg G H0 (Ite K a) (enumD 0 xs) where
  go := fun i H h hg => by
    rw [enumD_len] at h
    obtain ⟨v, hv, _⟩ := reps_at hr (List.getElem?_eq_getElem h)
    exact ⟨vs, v, sqL_sub hs hg, hv⟩
  yld := fun i H x H' d e hg ht hy => by
    obtain ⟨T, w, rfl, hT, rfl, hy⟩ := hy
    obtain ⟨d', e1, rfl⟩ := enumD_get e
    obtain ⟨v, hv, rp⟩ := reps_at hr e1
    have q := Option.some.inj (hv.symm.trans (hy vs (sqL_sub hs hg)))
    subst q
    have ex : ∀ a o, H a = some o → upd H T (.tup [.int (i : Nat), v]) a = some o := fun a o h => by rw [upd_ne (ne_of_none h hT)]; exact h
    refine ⟨ex, rep_pair upd_same (by rw [Nat.zero_add]; exact rep_int) (rep_mono (fun _ _ h => h) (fun a vs h => sqT_ex (ht a vs h) ex) d' (fun _ _ z => z.elim) rp)⟩
  stop := fun i H h hg => ⟨vs, sqL_sub hs hg, by rw [← reps_len hr, ← enumD_len xs 0]; exact h⟩
theorem satI_enm {te : TE} {a : E} (h : Sat X W te (evE a false)) : SatI X W (iEnum X.K (runs [te])) (fun rs => Res.bd (evE a false rs) fun d rs1 => ob (lItems (fz d)) fun xs => some (.ok (enumD 0 xs) rs1)) := by
  intro rs r e sg G H ts tv fp Rk hR h1 h2
  show te sg H fun x H1 => _
  rcases bd_some e with ⟨d, rs1, q, e⟩ | ⟨x, rs1, q, e⟩
  · refine h rs _ q sg G H ts tv fp _ hR (fun d' rs' er v G' H' f' st r' => ?_) (fun x rs' er => by cases er)
    cases er
    obtain ⟨xs, qx, e⟩ := ob_some e
    cases e
    obtain ⟨G2, f2, a, vs, rfl, r2, st2, hs, hr⟩ := fz_list r' qx
    exact ⟨a, vs, rfl, sqL_sub hs fun a o h => (r2.sub a o h).1, h1 _ _ rfl _ _ _ _ (st.trans st2) r2 (enm_ok hs hr)⟩
  · subst e
    exact h rs _ q sg G H ts tv fp _ hR (fun d' rs' er => by cases er) (fun x' rs' er => by cases er; exact h2 _ _ rfl)
def zipD : List D → List D → List D
  | x :: xs, y :: ys => .tup [x, y] :: zipD xs ys
  | _, _ => []
theorem zipD_len : ∀ (xs ys : List D), (zipD xs ys).length = min xs.length ys.length
  | [], ys => by simp [zipD]
  | _ :: _, [] => by simp [zipD]
  | x :: xs, y :: ys => by simp [zipD, zipD_len xs ys]
theorem zipD_get : ∀ {xs ys : List D} {i : Nat} {e : D}, (zipD xs ys)[i]? = some e → ∃ x y, xs[i]? = some x ∧ ys[i]? = some y ∧ e = .tup [x, y]
  | x :: xs, y :: ys, 0, e, h => by cases h; exact ⟨x, y, rfl, rfl, rfl⟩
  | x :: xs, y :: ys, i + 1, e, h => by
    obtain ⟨a, b, h1, h2, h3⟩ := zipD_get (xs := xs) (ys := ys) (i := i) (by simpa [zipD] using h)
    exact ⟨a, b, by simpa using h1, by simpa using h2, h3⟩
  | [], _, _, _, h => by simp [zipD] at h
  | _ :: _, [], _, _, h => by simp [zipD] at h
theorem zip_ok {K : Fr} {mg : Str → Option Value} {G H0 : Hp} {a b : Addr} {vs ws : List V} {xs ys : List D} (hs : SqL K G a vs) (hr : Reps K mg G H0 xs vs (fun _ => False)) (hs' : SqL K G b ws) (hr' : Reps K mg G H0 ys ws (fun _ => False)) : ItOk K mg G H0 (Itz K a b) (zipD xs ys) where
  go := fun i H h hg => by
    rw [zipD_len] at h
    obtain ⟨v, hv, _⟩ := reps_at hr (List.getElem?_eq_getElem (show i < xs.length by omega))
    obtain ⟨w, hw, _⟩ := reps_at hr' (List.getElem?_eq_getElem (show i < ys.length by omega))
    exact ⟨vs, ws, v, w, sqL_sub hs hg, sqL_sub hs' hg, hv, hw⟩
  yld := fun i H x H' d e hg ht hy => by
    obtain ⟨T, w1, w2, rfl, hT, rfl, hy1, hy2⟩ := hy
    obtain ⟨x, y, e1, e2, rfl⟩ := zipD_get e
    obtain ⟨v, hv, rp⟩ := reps_at hr e1
    obtain ⟨w, hw, rq⟩ := reps_at hr' e2
    have q := Option.some.inj (hv.symm.trans (hy1 vs (sqL_sub hs hg)))
    subst q
    have q := Option.some.inj (hw.symm.trans (hy2 ws (sqL_sub hs' hg)))
    subst q
    have ex : ∀ a o, H a = some o → upd H T (.tup [v, w]) a = some o := fun a o h => by rw [upd_ne (ne_of_none h hT)]; exact h
    have tu : ∀ a vs, SqT K H0 a vs → SqT K (upd H T (.tup [v, w])) a vs := fun a vs h => sqT_ex (ht a vs h) ex
    exact ⟨ex, rep_pair upd_same (rep_mono (fun _ _ h => h) tu x (fun _ _ z => z.elim) rp) (rep_mono (fun _ _ h => h) tu y (fun _ _ z => z.elim) rq)⟩
  stop := fun i H h hg => ⟨vs, ws, sqL_sub hs hg, sqL_sub hs' hg, by rw [zipD_len] at h; rw [← reps_len hr, ← reps_len hr']; omega⟩
theorem satI_zip {ta tb : TE} {a b : E} (ha : Sat X W ta (evE a false)) (hb : Sat X W tb (evE b false)) : SatI X W (iZip X.K (runs [ta, tb])) (fun rs => Res.bd (evE a false rs) fun d rs1 => Res.bd (evE b false rs1) fun d2 rs2 => ob (lItems (fz d)) fun xs => ob (lItems (fz d2)) fun ys => some (.ok (zipD xs ys) rs2)) := by
  intro rs r e sg G H ts tv fp Rk hR h1 h2
  show ta sg H fun x H1 => tb sg H1 fun y H2 => _
  rcases bd_some e with ⟨d, rs1, q, e⟩ | ⟨x, rs1, q, e⟩
  · refine ha rs _ q sg G H ts tv fp _ hR (fun d' rs' er v G' H' f' st r' => ?_) (fun x rs' er => by cases er)
    cases er
    rcases bd_some e with ⟨d2, rs2, q2, e⟩ | ⟨x, rs2, q2, e⟩
    · refine hb rs1 _ q2 sg G' H' _ _ f' _ r' (fun d' rs' er w G2 H2 f2 st2 r2 => ?_) (fun x rs' er => by cases er)
      cases er
      obtain ⟨xs, qx, e⟩ := ob_some e
      obtain ⟨ys, qy, e⟩ := ob_some e
      cases e
      obtain ⟨G3, f3, b, ws, rfl, r3, st3, hs', hr'⟩ := fz_list r2 qy
      obtain ⟨G4, f4, a, vs, rfl, r4, st4, hs, hr⟩ := fz_list r3 qx
      refine ⟨a, b, vs, ws, rfl, sqL_sub hs fun a o h => (r4.sub a o h).1, sqL_sub hs' fun a o h => (r3.sub a o h).1, h1 _ _ rfl _ _ _ _ ((st.trans st2).trans (st3.trans st4)) r4 (zip_ok hs hr (sqL_sub hs' st4.grow) (reps_mono st4.grow (fun _ _ h => h) ys (fun _ _ z => z.elim) hr'))⟩
    · subst e
      exact hb rs1 _ q2 sg G' H' _ _ f' _ r' (fun d' rs' er => by cases er) (fun x' rs' er => by cases er; exact (h2 _ _ rfl).step st)
  · subst e
    exact ha rs _ q sg G H ts tv fp _ hR (fun d' rs' er => by cases er) (fun x' rs' er => by cases er; exact h2 _ _ rfl)
end
end Pv

set_option maxHeartbeats 2000000
namespace Pv
open PySem PySem.Spec PyProof.Rows L2
section
variable {K : Fr} {mg : Str → Option Value} {G G' H H' : Hp} {fp f1 f2 : FP} {ts : List D} {tv : List V} {rs : List D} {sg : L2.St}
/-- the third comes to the top -/
theorem R.third {a b d : D} {va vb vd : V} (r : R K mg G H (a :: b :: d :: ts) (va :: vb :: vd :: tv) rs sg fp) : R K mg G H (d :: a :: b :: ts) (vd :: va :: vb :: tv) rs sg fp := by
  obtain ⟨f1, f2, h1, r2, dj, e⟩ := r.top
  have r3 := r2.swap.push h1 dj fun x o hg z => (r.sub x o hg).2 ((e x).2 (.inl z))
  exact r3.swap.iff fun x => (e x).symm
theorem reps_hole : ∀ {xs : List D} {vs : List V} {fp : FP} {j : Nat} {c : D}, Reps K mg G H xs vs fp → xs[j]? = some c → ∃ w f1 f2, vs[j]? = some w ∧ Rep K mg G H c w f1 ∧ Reps K mg G H (xs.set j .un) vs f2 ∧ (∀ a, f1 a → ¬ f2 a) ∧ ∀ a, fp a ↔ (f1 a ∨ f2 a)
  | x :: xs, v :: vs, fp, 0, c, h, e => by
    cases e
    simp only [Reps] at h
    obtain ⟨g1, g2, k1, k2, k3, k4⟩ := h
    refine ⟨v, g1, g2, rfl, k1, ?_, k3, k4⟩
    simp only [List.set_cons_zero, Reps, Rep]
    exact ⟨fun _ => False, g2, fun _ z => z, k2, fun _ z => z.elim, fun a => by simp⟩
  | x :: xs, v :: vs, fp, j + 1, c, h, e => by
    simp only [Reps] at h
    obtain ⟨g1, g2, k1, k2, k3, k4⟩ := h
    obtain ⟨w, f1, f2, q1, q2, q3, q4, q5⟩ := reps_hole (j := j) k2 (by simpa using e)
    refine ⟨w, f1, fun a => g1 a ∨ f2 a, by simpa using q1, q2, ?_, fun a ha hb => ?_, fun a => ?_⟩
    · simp only [List.set_cons_succ, Reps]
      exact ⟨g1, f2, k1, q3, fun a ha hb => k3 a ha ((q5 a).2 (.inr hb)), fun _ => Iff.rfl⟩
    · rcases hb with hb | hb
      · exact k3 a hb ((q5 a).2 (.inl ha))
      · exact q4 a ha hb
    · rw [k4 a, q5 a]
      constructor
      · rintro (z | z | z)
        · exact .inr (.inl z)
        · exact .inl z
        · exact .inr (.inr z)
      · rintro (z | z | z)
        · exact .inr (.inl z)
        · exact .inl z
        · exact .inr (.inr z)
  | [], _, _, _, _, _, e => by simp at e
  | _ :: _, [], _, _, _, h, _ => by simp only [Reps] at h
/-- an item of an own list taken out onto the pile -/
theorem R.out {xs : List D} {vx : V} {j : Nat} {c : D} (r : R K mg G H (.lst true xs :: ts) (vx :: tv) rs sg fp) (e : xs[j]? = some c) :
    ∃ p vs w, vx = .ref p ∧ H p = some (.lst vs) ∧ vs.length = xs.length ∧ vs[j]? = some w ∧ R K mg G H (c :: .lst true (xs.set j .un) :: ts) (w :: vx :: tv) rs sg fp := by
  obtain ⟨f1, f2, h1, r2, dj, ef⟩ := r.top
  simp only [Rep] at h1
  obtain ⟨p, vs, g, rfl, hp, hr, np, eg⟩ := h1
  obtain ⟨w, g1, g2, q1, q2, q3, q4, q5⟩ := reps_hole hr e
  have k1 : Rep K mg G H (.lst true (xs.set j .un)) (.ref p) (fun a => a = p ∨ g2 a) := by
    simp only [Rep]
    exact ⟨p, vs, g2, rfl, hp, q3, fun z => np ((q5 p).2 (.inr z)), fun _ => Iff.rfl⟩
  have le1 : ∀ a, (a = p ∨ g2 a) → f1 a := fun a z => (eg a).2 (z.imp id fun z => (q5 a).2 (.inr z))
  have le2 : ∀ a, g1 a → f1 a := fun a z => (eg a).2 (.inr ((q5 a).2 (.inl z)))
  have r3 := r2.push k1 (fun a ha hb => dj a (le1 a ha) hb) fun a o hg z => (r.sub a o hg).2 ((ef a).2 (.inl (le1 a z)))
  have r4 := r3.push q2 (fun a ha hb => by
    rcases hb with (hb | hb) | hb
    · exact np ((q5 p).2 (.inl (hb ▸ ha)))
    · exact q4 a ha hb
    · exact dj a (le2 a ha) hb) fun a o hg z => (r.sub a o hg).2 ((ef a).2 (.inl (le2 a z)))
  refine ⟨p, vs, w, rfl, hp, (reps_len hr).symm, q1, r4.iff fun a => ?_⟩
  rw [ef a, eg a, q5 a]
  constructor
  · rintro (z | (z | z) | z)
    · exact .inl (.inr (.inl z))
    · exact .inl (.inl z)
    · exact .inl (.inr (.inr z))
    · exact .inr z
  · rintro ((z | z | z) | z)
    · exact .inr (.inl (.inl z))
    · exact .inl z
    · exact .inr (.inl (.inr z))
    · exact .inr (.inr z)
/-- .. and back -/
theorem R.inn {xs : List D} {p : Addr} {vs : List V} {j : Nat} {c : D} {w : V} (r : R K mg G H (c :: .lst true xs :: ts) (w :: .ref p :: tv) rs sg fp) (hp : H p = some (.lst vs)) (hw : vs[j]? = some w) :
    ∃ fp', R K mg G H (.lst true (xs.set j c) :: ts) (.ref p :: tv) rs sg fp' ∧ Step K G H fp G H fp' := by
  obtain ⟨f1, f2, h1, r2, dj, ef⟩ := r.top
  obtain ⟨g1, g2, k1, r3, dj2, eg⟩ := r2.top
  simp only [Rep] at k1
  obtain ⟨p', vs', g, e1, hp', hr, np, eg'⟩ := k1
  cases e1
  rw [hp] at hp'; cases hp'
  obtain ⟨f3, q1, q2⟩ := reps_set j h1 hr fun a ha hb => dj a ha ((eg a).2 (.inl ((eg' a).2 (.inr hb))))
  rw [set_same hw] at q1
  have n3 : ¬ f3 p := fun z => (q2 p z).elim (fun z => dj p z ((eg p).2 (.inl ((eg' p).2 (.inl rfl))))) np
  have k2 : Rep K mg G H (.lst true (xs.set j c)) (.ref p) (fun a => a = p ∨ f3 a) := by
    simp only [Rep]
    exact ⟨p, vs, f3, rfl, hp, q1, n3, fun _ => Iff.rfl⟩
  have le : ∀ a, (a = p ∨ f3 a) → fp a ∧ ¬ g2 a := fun a z => by
    rcases z with z | z
    · rw [z]; exact ⟨(ef p).2 (.inr ((eg p).2 (.inl ((eg' p).2 (.inl rfl))))), dj2 p ((eg' p).2 (.inl rfl))⟩
    · rcases q2 a z with z | z
      · exact ⟨(ef a).2 (.inl z), fun y => dj a z ((eg a).2 (.inr y))⟩
      · exact ⟨(ef a).2 (.inr ((eg a).2 (.inl ((eg' a).2 (.inr z))))), dj2 a ((eg' a).2 (.inr z))⟩
  refine ⟨_, r3.push k2 (fun a ha => (le a ha).2) (fun a o hg z => (r.sub a o hg).2 (le a z).1), .less fun a z => ?_⟩
  rcases z with z | z
  · exact (le a z).1
  · exact (ef a).2 (.inr ((eg a).2 (.inr z)))
end
section
variable {X : Cx} {W : WX} {c : Ce} {km : Nat} {io : List Nat}
/-! ### stores -/
def ownItems : D → Option (List D)
  | .lst true xs => some xs
  | _ => none
theorem ownItems_of {d : D} {xs : List D} (h : ownItems d = some xs) : d = .lst true xs := by
  cases d <;> first | (cases h; done) | skip
  rename_i o ys
  cases o <;> cases h
  rfl
def asInt : D → Option Int
  | .int i => some i
  | _ => none
theorem asInt_of {d : D} {i : Int} (h : asInt d = some i) : d = .int i := by
  cases d <;> first | (cases h; done) | skip
  cases h; rfl
def sto1 (s : Nat) (j : Option D) (d : D) (rs : List D) : Option (List D) := ob j fun j => ob (asInt j) fun k => ob rs[s]? fun l => ob (ownItems l) fun xs => ob (ixN xs.length k) fun i => some (rs.set s (.lst true (xs.set i d)))
def sto2 (s : Nat) (j1 j2 : Option D) (d : D) (rs : List D) : Option (List D) := ob j1 fun j1 => ob (asInt j1) fun k1 => ob j2 fun j2 => ob (asInt j2) fun k2 => ob rs[s]? fun l => ob (ownItems l) fun xs =>
  ob (ixN xs.length k1) fun i1 => ob xs[i1]? fun m => ob (ownItems m) fun ys => ob (ixN ys.length k2) fun i2 => some (rs.set s (.lst true (xs.set i1 (.lst true (ys.set i2 d)))))
theorem satG_sto1 {s : Nat} {tj : TE} {j : E} (hj : SatP X tj (evP j)) : SatG X io (gSub (tVar s) tj rSetL) (fun d rs => sto1 s (evP j rs) d rs) := by
  intro d rs rs' e v sg G H ts tv fp Q hR h
  unfold sto1 at e
  obtain ⟨jd, ej, e⟩ := ob_some e
  obtain ⟨k, ek, e⟩ := ob_some e
  obtain ⟨l, el, e⟩ := ob_some e
  obtain ⟨xs, ex, e⟩ := ob_some e
  obtain ⟨i, hi, e⟩ := ob_some e
  cases e
  cases ownItems_of ex
  cases asInt_of ek
  obtain ⟨vx, hv⟩ := hR.val el (by intro z; cases z)
  refine ⟨vx, hv, ?_⟩
  refine hj rs _ ej sg G H _ _ fp _ hR fun w hw => ?_
  cases vw_int hw
  have r1 := (hR.take el hv).swap
  obtain ⟨p, vs, rfl, hp, hl, f2, r2, st2⟩ := r1.putL i
  obtain ⟨f3, r3, st3⟩ := r2.back hv
  rw [List.set_set] at r3
  exact ⟨p, vs, k, i, rfl, rfl, hp, by rw [hl]; exact hi, h sg _ f3 (st2.trans st3) (Kp.refl _ _) r3⟩
theorem satG_sto2 {s : Nat} {t1 t2 : TE} {j1 j2 : E} (h1 : SatP X t1 (evP j1)) (h2 : SatP X t2 (evP j2)) : SatG X io (gSub (tOp (rIx X.K) (tVar s) t1) t2 rSetL) (fun d rs => sto2 s (evP j1 rs) (evP j2 rs) d rs) := by
  intro d rs rs' e v sg G H ts tv fp Q hR h
  unfold sto2 at e
  obtain ⟨d1, ej1, e⟩ := ob_some e
  obtain ⟨k1, ek1, e⟩ := ob_some e
  obtain ⟨d2, ej2, e⟩ := ob_some e
  obtain ⟨k2, ek2, e⟩ := ob_some e
  obtain ⟨l, el, e⟩ := ob_some e
  obtain ⟨xs, ex, e⟩ := ob_some e
  obtain ⟨i1, hi1, e⟩ := ob_some e
  obtain ⟨m, em, e⟩ := ob_some e
  obtain ⟨ys, ey, e⟩ := ob_some e
  obtain ⟨i2, hi2, e⟩ := ob_some e
  cases e
  cases ownItems_of ex
  cases ownItems_of ey
  cases asInt_of ek1
  cases asInt_of ek2
  obtain ⟨vx, hv⟩ := hR.val el (by intro z; cases z)
  refine ⟨vx, hv, ?_⟩
  refine h1 rs _ ej1 sg G H _ _ fp _ hR fun w hw => ?_
  cases vw_int hw
  have r1 := hR.take el hv
  obtain ⟨p, vs, w, rfl, hp, hl, hw, r2⟩ := r1.out em
  have r3 := r2.third
  obtain ⟨q, us, rfl, hq, hul, f4, r4, st4⟩ := r3.putL i2
  have hpq : p ≠ q := fun z => by
    subst z
    obtain ⟨g1, g2, a1, b1, c1, e1⟩ := r2.top
    obtain ⟨g3, g4, a2, _, _, e2⟩ := b1.top
    simp only [Rep] at a1 a2
    obtain ⟨_, _, _, x1, _, _, _, x2⟩ := a1
    obtain ⟨_, _, _, y1, _, _, _, y2⟩ := a2
    cases x1; cases y1
    exact c1 p ((x2 p).2 (.inl rfl)) ((e2 p).2 (.inl ((y2 p).2 (.inl rfl))))
  obtain ⟨f5, r5, st5⟩ := r4.inn (p := p) (vs := vs) (j := i1) (by rw [upd_ne hpq]; exact hp) hw
  rw [List.set_set] at r5
  obtain ⟨f6, r6, st6⟩ := r5.back hv
  rw [List.set_set] at r6
  have hat : atI vs k1 = some (.ref q) := by
    unfold atI
    rw [hl, hi1]; exact hw
  refine ix_of (.inl (.inl (.inl hp))) hat ?_
  refine h2 rs _ ej2 sg G H _ _ fp _ hR fun w hw => ?_
  cases vw_int hw
  exact ⟨q, us, k2, i2, rfl, rfl, hq, by rw [hul]; exact hi2, h sg _ f6 ((st4.trans st5).trans st6) (Kp.refl _ _) r6⟩
/-- x.append(e) -/
def app1 (s : Nat) (d : D) (rs : List D) : Option (List D) := ob rs[s]? fun l => ob (ownItems l) fun xs => if xs.length < 1000000 then some (rs.set s (.lst true (xs ++ [d]))) else none
def isOwnL (s : Nat) (rs : List D) : Bool := match rs[s]? with
  | some (.lst _ _) => true
  | _ => false
theorem satS_app {s : Nat} {te : TE} {ev : List D → Option (Res D)} (h : Sat X W te ev) : SatS X W io (tDrop (tBM X.K "list" rAppend (tVar s) (runs [te]))) (fun rs => if isOwnL s rs then thenE (ev rs) fun d rs1 => ob (app1 s d rs1) fun rs2 => some (.nx rs2) else none) := by
  intro rs r e sg G H fp Dn hR hp
  dsimp only at e
  split at e
  case isFalse => cases e
  rename_i hl
  unfold isOwnL at hl
  split at hl
  case h_2 => cases hl
  rename_i o ys el
  obtain ⟨vx, hv⟩ := hR.val el (by intro z; cases z)
  obtain ⟨p0, vs0, rfl, hs0, _⟩ := vw_lst (show Vw X.K X.mg H (.lst false (fzs ys)) vx from hR.view el hv)
  refine ⟨_, hv, .inl ⟨rfl, _, hs0⟩, ?_⟩
  refine sat_then (f := fun d rs1 => ob (app1 s d rs1) fun rs2 => some (.nx rs2)) (g := fun v sg H' => rAppend (.ref p0) [v] H' fun _ H2 => Dn.nx sg H2) h e hR hp fun d rs1 _ e v G' H' f' st r' hp => ?_
  obtain ⟨rs2, ea, eb⟩ := ob_some e
  cases eb
  unfold app1 at ea
  obtain ⟨l, el2, ec⟩ := ob_some ea
  obtain ⟨xs, ex, ed⟩ := ob_some ec
  split at ed
  case isFalse => cases ed
  rename_i hlen
  cases ed
  cases ownItems_of ex
  have r1 := (r'.take el2 hv).swap
  obtain ⟨p, vs, e1, hpp, hvl, f2, r2, st2⟩ := r1.appL
  cases e1
  obtain ⟨f3, r3, st3⟩ := r2.back hv
  rw [List.set_set] at r3
  exact ⟨p0, vs, v, rfl, rfl, hpp, by rw [hvl]; exact Nat.lt_of_lt_of_le hlen (by decide), hp sg G' _ f3 (st2.trans st3) (Kp.refl _ _) r3⟩
/-! ### name op= e -/
def opI : P2 → Value → Value → Sem Value
  | .add => inplaceOp .Add
  | .sub => inplaceOp .Sub
  | .mul => inplaceOp .Mult
  | _ => fun _ _ => .unsupported "none"
def augOk : P2 → Bool
  | .add => true
  | .sub => true
  | .mul => true
  | _ => false
def augI (p : P2) (i j : Int) : Option Int := match p with
  | .add => some (i + j)
  | .sub => some (i - j)
  | .mul => if mulOk i j then some (i * j) else none
  | _ => none
def rAug (p : P2) : R2 := fun x y H Q => ∃ i j k, x = .int i ∧ y = .int j ∧ augI p i j = some k ∧ Q (.int k) H
theorem mulOk_of {i j : Int} (hc : mulOk i j = true) : IntMulOk i j := by
  have b : ∀ x : Int, Builtin.Int.intBits x ≤ x.natAbs.log2 + 1 := fun x => by
    unfold Builtin.Int.intBits
    split <;> omega
  have h1 := b i
  have h2 := b j
  have h3 : i.natAbs.log2 + j.natAbs.log2 < 100000000 := of_decide_eq_true hc
  have e : bitsLine = 134217728 := by decide
  unfold IntMulOk
  intro z
  rw [Bool.and_eq_true] at z
  have z2 := z.2
  unfold Builtin.Int.intTooBig at z2
  have z3 := of_decide_eq_true z2
  rw [e] at z3
  omega
theorem doesAug {p : P2} (hp : augOk p = true) : OpR X (opI p) (rAug p) := by
  intro pins s σ H x y v u Q I rx ry h
  obtain ⟨i, j, k, rfl, rfl, e, q⟩ := h
  cases p <;> first | (cases hp; done) | skip
  · cases e
    exact iop_add pins s σ H _ _ v u Q I rx ry ⟨i, j, rfl, rfl, q⟩
  · cases e
    exact iop_sub pins s σ H _ _ v u Q I rx ry ⟨i, j, rfl, rfl, q⟩
  · simp only [augI] at e
    split at e
    · rename_i hm
      cases e
      obtain ⟨t, rfl⟩ := rx
      obtain ⟨t', rfl⟩ := ry
      exact imul_int ⟨.int _, H, I.tok _, ⟨_, rfl⟩, q⟩ (mulOk_of hm)
    · cases e
def aug1 (i : Nat) (p : P2) (a : Option D) (d : D) (rs : List D) : Option (List D) := ob a fun a => ob (asInt a) fun x => ob (asInt d) fun y => ob (augI p x y) fun z => if okS io rs.length i then some (rs.set i (.int z)) else none
theorem satS_aug {i : Nat} {p : P2} {te : TE} {ev : List D → Option (Res D)} (h : Sat X W te ev) : SatS X W io (tAug i te (rAug p)) (fun rs => ob (evP (.var i) rs) fun a => ob (asInt a) fun x => thenE (ev rs) fun d rs1 => ob (asInt d) fun y => ob (augI p x y) fun z => if okS io rs1.length i then some (.nx (rs1.set i (.int z))) else none) := by
  intro rs r e sg G H fp Dn hR hp
  dsimp only at e
  obtain ⟨a, ea, e⟩ := ob_some e
  obtain ⟨x, ex, e⟩ := ob_some e
  cases asInt_of ex
  refine satP_var (s := i) rs _ ea sg G H [] [] fp (fun v H' => te sg H' fun y H1 => rAug p v y H1 fun z H2 => Dn.nx (sg.set i (some z)) H2) hR fun v hv => ?_
  cases vw_int hv
  refine sat_then (f := fun d rs1 => ob (asInt d) fun y => ob (augI p x y) fun z => if okS io rs1.length i then some (.nx (rs1.set i (.int z))) else none) (g := fun v sg H' => rAug p (.int x) v H' fun z H2 => Dn.nx (sg.set i (some z)) H2) h e hR hp fun d rs1 _ e v G' H' f' st r' hp => ?_
  obtain ⟨y, ey, e⟩ := ob_some e
  obtain ⟨z, ez, e⟩ := ob_some e
  split at e
  case isFalse => cases e
  rename_i ho
  cases e
  cases asInt_of ey
  cases vw_int (show Vw X.K X.mg H' (.int y) v from r'.viewT)
  obtain ⟨f2, r2, st2⟩ := r'.drop
  obtain ⟨o1, o2⟩ := okS_of ho
  obtain ⟨f3, r3, st3⟩ := (r2.pushE (d := .int z) rep_int).put (s := i) o2
  exact ⟨x, y, z, rfl, rfl, ez, hp _ G' H' f3 (st2.trans st3) (.set o1) r3⟩
/-- x[j1][j2] op= e, x[j] op= e, all by looks -/
theorem satS_saug2 {s : Nat} {p : P2} {t1 t2 te : TE} {j1 j2 a : E} (h1 : SatP X t1 (evP j1)) (h2 : SatP X t2 (evP j2)) (ha : SatP X te (evP a)) :
    SatS X W io (tAugS (tOp (rIx X.K) (tVar s) t1) t2 te (fun o i H Q => rIxL X.K o i H Q) (rAug p) rSetL) (fun rs => ob (evP (.ix (.ix (.var s) j1) j2) rs) fun o => ob (asInt o) fun x => ob (evP a rs) fun b => ob (asInt b) fun y => ob (augI p x y) fun z => ob (sto2 s (evP j1 rs) (evP j2 rs) (.int z) rs) fun rs2 => some (.nx rs2)) := by
  intro rs r e sg G H fp Dn hR hp
  dsimp only at e
  obtain ⟨o, eo, e⟩ := ob_some e
  obtain ⟨x, ex, e⟩ := ob_some e
  obtain ⟨b, eb, e⟩ := ob_some e
  obtain ⟨y, ey, e⟩ := ob_some e
  obtain ⟨z, ez, e⟩ := ob_some e
  obtain ⟨rs2, es, e⟩ := ob_some e
  cases e
  cases asInt_of ex
  cases asInt_of ey
  have hg := satG_sto2 (X := X) (io := io) (s := s) h1 h2 (.int z) rs rs2 es (.int z) sg G H [] [] fp (fun sg' H' => Dn.nx sg' H') (hR.pushE rep_int) fun sg' H' f' st kp r' => hp sg' G H' f' st kp r'
  -- the same walk, with the item read and written
  unfold sto2 at es
  obtain ⟨d1, ej1, es⟩ := ob_some es
  obtain ⟨k1, ek1, es⟩ := ob_some es
  obtain ⟨d2, ej2, es⟩ := ob_some es
  obtain ⟨k2, ek2, es⟩ := ob_some es
  obtain ⟨l, el, es⟩ := ob_some es
  obtain ⟨xs, exs, es⟩ := ob_some es
  obtain ⟨i1, hi1, es⟩ := ob_some es
  obtain ⟨m, em, es⟩ := ob_some es
  obtain ⟨ys, eys, es⟩ := ob_some es
  obtain ⟨i2, hi2, es⟩ := ob_some es
  cases es
  cases ownItems_of exs
  cases ownItems_of eys
  cases asInt_of ek1
  cases asInt_of ek2
  obtain ⟨vx, hv⟩ := hR.val el (by intro z; cases z)
  refine ⟨vx, hv, ?_⟩
  refine h1 rs _ ej1 sg G H _ _ fp _ hR fun w hw => ?_
  cases vw_int hw
  have r1 := hR.take el hv
  obtain ⟨p', vs, w, rfl, hp', hl, hw, r2⟩ := r1.out em
  obtain ⟨g1, g2, a1, b1, c1, e1⟩ := r2.top
  have a1' := a1
  simp only [Rep] at a1
  obtain ⟨q, us, g3, rfl, hq, hr, nq, eq⟩ := a1
  have hpq : p' ≠ q := fun z => by
    subst z
    obtain ⟨g3, g4, a2, _, _, e2⟩ := b1.top
    simp only [Rep] at a2
    obtain ⟨_, _, _, y1, _, _, _, y2⟩ := a2
    cases y1
    exact c1 p' ((eq p').2 (.inl rfl)) ((e2 p').2 (.inl ((y2 p').2 (.inl rfl))))
  have hat : atI vs k1 = some (.ref q) := by
    unfold atI
    rw [hl, hi1]; exact hw
  refine ix_of (.inl (.inl (.inl hp'))) hat ?_
  refine h2 rs _ ej2 sg G H _ _ fp _ hR fun w hw2 => ?_
  cases vw_int hw2
  -- the item
  have hitem : ys[i2]? = some (.int x) := by
    simp only [evP] at eo
    obtain ⟨q1, eq1, eo⟩ := ob_some eo
    obtain ⟨q2, eq2, eo⟩ := ob_some eo
    rw [ej2] at eq2; cases eq2
    obtain ⟨q3, eq3, eq1⟩ := ob_some eq1
    obtain ⟨q4, eq4, eq1⟩ := ob_some eq1
    rw [ej1] at eq4; cases eq4
    simp only [el, isUn, Bool.false_eq_true, if_false, Option.some.injEq] at eq3
    subst eq3
    simp only [at2, fz, itemsOf, fzs_map] at eq1
    unfold atI at eq1
    rw [List.length_map, hi1] at eq1
    simp only [Option.bind_some, List.getElem?_map, em, Option.map_some, Option.some.injEq, fz] at eq1
    subst eq1
    simp only [at2, itemsOf, fzs_map] at eo
    unfold atI at eo
    rw [List.length_map, hi2] at eo
    simp only [Option.bind_some, List.getElem?_map] at eo
    obtain ⟨d, hd, ed⟩ := Option.map_eq_some_iff.mp eo
    cases d <;> first | (cases ed; done) | skip
    cases ed
    exact hd
  obtain ⟨w3, f3, q1, q2, q3⟩ := reps_item hr hitem
  have ew3 : w3 = .int x := by simp only [Rep] at q2; exact q2.1
  subst ew3
  have hat2 : atI us k2 = some (.int x) := by
    unfold atI
    rw [← reps_len hr, hi2]; exact q1
  refine ⟨q, us, k2, _, rfl, rfl, .inl (.inl hq), hat2, ?_⟩
  refine ha rs _ eb sg G H _ _ fp _ hR fun w hw3 => ?_
  cases vw_int hw3
  refine ⟨x, y, z, rfl, rfl, ez, q, us, k2, i2, rfl, rfl, hq, by rw [← reps_len hr]; exact hi2, ?_⟩
  obtain ⟨q', us', eqq, hq', hul, f4, r4, st4⟩ := (r2.pushE (d := .int z) (v := .int z) rep_int).putL i2
  cases eqq
  rw [hq] at hq'; cases hq'
  obtain ⟨f5, r5, st5⟩ := r4.inn (p := p') (vs := vs) (j := i1) (by rw [upd_ne hpq]; exact hp') hw
  rw [List.set_set] at r5
  obtain ⟨f6, r6, st6⟩ := r5.back hv
  rw [List.set_set] at r6
  exact hp sg G _ f6 ((st4.trans st5).trans st6) (Kp.refl _ _) r6
end
end Pv

set_option maxHeartbeats 2000000
namespace Pv
open PySem PySem.Spec PySem.W PySem.Calls PyProof.Rows PySem.HandSPX L2 Builtin.ObjectAttr
/-! ### the program's own exception classes -/
abbrev aeT : List Value := [.type "ArithmeticError", .type "Exception", .type "BaseException", .type "object"]
/-- self.f = f, one after another -/
def initB (sc : Scope) : List Str → List Stmt → Bool
  | [], [] => true
  | f :: fs, .Assign [.Attribute (.Name s _) g _] (.Name p _) _ :: r => ((decide (s = ("self" : Str)) && (decide (g = f) && decide (p = f))) && ((sc.names.lookup f == some .local) && (f != ("__debug__" : Str)))) && initB sc fs r
  | _, _ => false
structure XC (K : Fr) (mg : Str → Option Value) (C : Str) (ns : List Str) (Ca fI : Addr) : Prop where
  gC : mg C = some (.ref Ca)
  mkC : excInitIn K Ca aeT "ArithmeticError.__new__" = true
  ov : excOver K Ca aeT = true
  sa : findIn K (.ref Ca) "__setattr__" = some (some (.builtin "object.__setattr__"))
  iC : findIn K (.ref Ca) "__init__" = some (some (.ref fI))
  tC : typeIn K (.ref fI) = some (.type "function")
  kC : keepIn K (.ref Ca) = true
  exC : subIn K (.ref Ca) (.type "BaseException") = some true
  tyC : typeIn K (.ref Ca) = some (.type "type")
  hdC : hasDictIn K Ca = true
  no : ∀ f ∈ ns, findIn K (.ref Ca) f = some none
  fn : ∃ (x qual : Str) (params : Arguments) (body : List Stmt) (scope : Scope) (fd : FuncData), FunD K x qual params body scope [] [] fI fd ∧ initB scope ns body = true ∧ Binds K fd ("self" :: ns) [] ∧
    scope.isCoroutine = false ∧ scope.isGenerator = false ∧ scope.kind = .function ∧ scope.names.lookup ("self" : Str) = some .local
  nd : (("self" : Str) :: ns).Nodup
  ne : ns ≠ []
  few : ns.length ≤ 100
/-- the names f become v -/
def putF (m : Str → Option Value) : List Str → List Value → Str → Option Value
  | f :: fs, v :: vs => putF (fun y => if y = f then some v else m y) fs vs
  | _, _ => m
section
variable {prog : Program} {w : World} {A : Around} {E : Value → Shared → Prop} {K : Fr} {mg : Str → Option Value} {C : Str} {ns : List Str} {Ca fI : Addr}
/-- the first store lays the dict -/
theorem exc_first {hp : Heap} {g : Array GenState} {d : Drawn} {t : Nat} {os : OsState} {R : Result → Shared → Prop} (T : XC K mg C ns Ca fI) {f : Str} (hf : f ∈ ns) {tk : Tok} {v : Value} {x : Addr} {fv : Array Value}
    (X : K.In hp) (hx : hp.get? x = some { cls := .ref Ca, data := .fields fv })
    (hq : ∀ h' tk' dx, (∀ b o, b ≠ x → hp.get? b = some o → h'.get? b = some o) → hp.objs.size ≤ dx → dx ≠ x → h'.get? x = some { cls := .ref Ca, dict := some dx, data := .fields fv } →
      h'.Ns1 dx (fun y => if y = f then some v else none) → R (.ok (.ret .none)) ⟨h', g, d, tk', os⟩) :
    codeAny (model prog w) A (.call (.builtin "object.__setattr__") ⟨[.ref x, .str f tk, v], []⟩) R ⟨hp, g, d, t, os⟩ := by
  have tki : takerIn K Ca f = some none := by unfold takerIn; rw [T.no f hf]; rfl
  refine osa_openX (od := none) F.store_ArithmeticError X ⟨hx, rfl, rfl, trivial⟩ T.ov tki fun b => ?_
  obtain ⟨cd, hc, hd⟩ := any_some T.hdC
  have hcls : Looks (model prog w) hp (classData Ca) cd := looks_clsIn X hc
  have hxs : x ≠ hp.objs.size := Nat.ne_of_lt (Heap.lt_size hx)
  obtain ⟨nm, bs, mro, nn, qn, hdd, sn, sb, ab, col, del⟩ := cd
  dsimp only at hd
  subst hd
  show wpAny _ _ (storeInOwnDict (.ref x) (.ref Ca) (.str f tk) f v b) _ _ _
  unfold storeInOwnDict ownDictForStores
  repeat (first | with_reducible refine store_in_new ?_ ?_ | with_reducible refine wpAny_loadPart_at hx ?_ | with_reducible refine hcls.at ?_ | wp_step)
  · exact ⟨_, #[], _, (Heap.get?_update_ne _ _ _ _ hxs.symm).trans (Heap.get?_push_at rfl rfl), rfl, fun e he => absurd he (by simp), fun _ => rfl⟩
  · intro h' tk' hn' hs
    have hx1 : (hp.push { cls := .type "dict", data := .dict #[] }).get? x = some { cls := .ref Ca, data := .fields fv } := Heap.get?_push_of_some _ hx
    refine hq h' tk' hp.objs.size (fun c o hb ho => ?_) (Nat.le_refl _) hxs.symm ?_ hn'
    · exact (hs.2 c (Nat.ne_of_lt (Heap.lt_size ho))).trans ((Heap.get?_update_ne _ _ _ _ hb).trans (Heap.get?_push_of_some _ ho))
    · exact (hs.2 x hxs).trans (Heap.get?_update_self _ hx1 rfl)
/-- a later one -/
theorem exc_later {hp : Heap} {g : Array GenState} {d : Drawn} {t : Nat} {os : OsState} {R : Result → Shared → Prop} (T : XC K mg C ns Ca fI) {f : Str} (hf : f ∈ ns) {tk : Tok} {v : Value} {x dx : Addr} {fv : Array Value} {m0 : Str → Option Value} {nl : List Str}
    (X : K.In hp) (hx : hp.get? x = some { cls := .ref Ca, dict := some dx, data := .fields fv }) (hn : hp.Ns1 dx m0) (hw : Within m0 nl) (hz : nl.length ≤ 1000)
    (hq : ∀ h' tk', (∀ b o, b ≠ dx → hp.get? b = some o → h'.get? b = some o) → h'.Ns1 dx (fun y => if y = f then some v else m0 y) → R (.ok (.ret .none)) ⟨h', g, d, tk', os⟩) :
    codeAny (model prog w) A (.call (.builtin "object.__setattr__") ⟨[.ref x, .str f tk, v], []⟩) R ⟨hp, g, d, t, os⟩ := by
  have tki : takerIn K Ca f = some none := by unfold takerIn; rw [T.no f hf]; rfl
  obtain ⟨oD, esD, epD, hoD, hdD, _⟩ := hn.count hw
  refine osa_openX (od := some oD) F.store_ArithmeticError X ⟨hx, rfl, rfl, hoD⟩ T.ov tki fun b => ?_
  obtain ⟨cd, hc, hd⟩ := any_some T.hdC
  have hcls : Looks (model prog w) hp (classData Ca) cd := looks_clsIn X hc
  obtain ⟨nm, bs, mro, nn, qn, hdd, sn, sb, ab, col, del⟩ := cd
  dsimp only at hd
  subst hd
  show wpAny _ _ (storeInOwnDict (.ref x) (.ref Ca) (.str f tk) f v b) _ _ _
  unfold storeInOwnDict ownDictForStores
  repeat (first | with_reducible refine PySem.OEX.store_in_old hn hw hz ?_ | with_reducible refine wpAny_loadPart_at hx ?_ | with_reducible refine hcls.at ?_ | wp_step)
  intro h' tk' hn' hs
  exact hq h' tk' (fun c o hb ho => (hs.2 c hb).trans ho) hn'
/-- the names of the frame -/
theorem ld_own {M : Model} {s : Shared} {qual : Str} {scope : Scope} {L a : Addr} {cd : Value} {m : Str → Option Value} {x : Str} {pos : Pos} {v : Value} {Q : Value → Shared → Prop} (hk : scope.kind = .function) (hl : scope.names.lookup x = some .local) (hd : (x == ("__debug__" : Str)) = false)
    (hn : s.heap.Ns L m) (hv : m x = some v) (h : Q v s) : wpAny M A (eval (.Name x pos) (envOfC qual scope L a cd)) Q E s := wpAny_Name (wpAny_loadName_local hk hl hn hv h) hd
theorem init_parts {sc : Scope} {f : Str} {fs : List Str} {body : List Stmt} (h : initB sc (f :: fs) body = true) : ∃ p1 p2 p3 p4 r, body = .Assign [.Attribute (.Name "self" p1) f p2] (.Name f p3) p4 :: r ∧ sc.names.lookup f = some .local ∧ (f == ("__debug__" : Str)) = false ∧ initB sc fs r = true := by
  cases body with
  | nil => simp [initB] at h
  | cons s r =>
    unfold initB at h
    split at h
    · rename_i e; cases e
    · rename_i f' fs' s' p1 g p2 p p3 p4 r' e1 e2
      cases e1
      cases e2
      simp only [Bool.and_eq_true, decide_eq_true_eq, beq_iff_eq, bne_iff_ne] at h
      obtain ⟨⟨⟨rfl, rfl, rfl⟩, h2, h3⟩, h4⟩ := h
      exact ⟨p1, p2, p3, p4, r, rfl, h2, by simpa using h3, h4⟩
    · cases h
/-- the further fields -/
theorem init_rest (T : XC K mg C ns Ca fI) {qual : Str} {scope : Scope} {L fa : Addr} {cdv : Value} {x dx : Addr} {fv : Array Value} {m : Str → Option Value} (hk : scope.kind = .function) (hself : scope.names.lookup ("self" : Str) = some .local) (ms : m "self" = some (.ref x)) :
    ∀ (fs : List Str) (us : List Value) (body : List Stmt) (m0 : Str → Option Value) (nl : List Str) (s : Shared), initB scope fs body = true → (∀ f ∈ fs, f ∈ ns) → fs.length = us.length → (∀ (i : Nat) (f : Str) (u : Value), fs[i]? = some f → us[i]? = some u → m f = some u) →
    K.In s.heap → s.heap.Ns L m → L ≠ dx → s.heap.get? x = some { cls := .ref Ca, dict := some dx, data := .fields fv } → x ≠ dx → s.heap.Ns1 dx m0 → Within m0 nl → nl.length + fs.length ≤ 1000 → K.lookup dx = none →
    ∀ (Q : Flow → Shared → Prop), (∀ h' tk', (∀ b o, b ≠ dx → s.heap.get? b = some o → h'.get? b = some o) → h'.Ns1 dx (putF m0 fs us) → Q .next { s with heap := h', toks := tk' }) →
    wpAny (model prog w) A (execs body (envOfC qual scope L fa cdv)) Q E s
  | [], us, body, m0, nl, s, hb, hin, hl, hm, X, hn, hLd, hx, hxd, hns, hw, hz, hkd, Q, hq => by
    cases us with
    | cons _ _ => cases hl
    | nil =>
      cases body with
      | cons _ _ => simp [initB] at hb
      | nil =>
        refine wpAny_execs_nil ?_
        have q := hq s.heap s.toks (fun b o _ e => e) hns
        exact q
  | f :: fs, us, body, m0, nl, s, hb, hin, hl, hm, X, hn, hLd, hx, hxd, hns, hw, hz, hkd, Q, hq => by
    cases us with
    | nil => cases hl
    | cons u us =>
      obtain ⟨p1, p2, p3, p4, r, rfl, hlf, hdf, hr⟩ := init_parts hb
      obtain ⟨oD, _, _, hoD, _, _⟩ := hns.count hw
      refine wpAny_execs_cons (plainObj_wpAny_Assign_Attribute ?_)
      refine ld_own hk hlf hdf hn (hm 0 f u rfl rfl) (ld_own hk hself (by decide) hn ms ?_)
      obtain ⟨hp, g, d, t, os⟩ := s
      refine set_plain X (ox := { cls := .ref Ca, dict := some dx, data := .fields fv }) (od := some oD) ⟨hx, rfl, rfl, hoD⟩ T.sa ?_
      refine exc_later T (hin f List.mem_cons_self) X hx hns hw (by simp only [List.length_cons] at hz; omega) fun h1 tk1 k1 n1 => ?_
      have X1 : K.In h1 := fun a o e => k1 a o (fun z => by rw [z, hkd] at e; cases e) (X a o e)
      refine init_rest T hk hself ms fs us r _ (f :: nl) ⟨h1, g, d, tk1, os⟩ hr (fun f' hf' => hin f' (List.mem_cons_of_mem _ hf')) (by simpa using hl) (fun i f' u' e1 e2 => hm (i + 1) f' u' (by simpa using e1) (by simpa using e2)) X1 (hn.at fun o e => k1 L o hLd e) hLd (k1 x _ hxd hx) hxd n1 (Within.cons f u hw) (by simp only [List.length_cons] at hz ⊢; omega) hkd Q fun h' tk' k' n' => hq h' tk' (fun b o hb e => k' b o hb (k1 b o hb e)) n'
/-- what __init__ leaves -/
structure InitEnd (h h' : Heap) (x Ca dx t1 : Addr) (ns : List Str) (us : List Value) : Prop where
  keep : ∀ b o, b ≠ x → h.get? b = some o → h'.get? b = some o
  obj : h'.get? x = some { cls := .ref Ca, dict := some dx, data := .fields #[.ref t1, .none, .none, .none, .bool false, .none] }
  dbig : h.objs.size ≤ dx
  dne : dx ≠ x
  ns : h'.Ns1 dx (putF (fun _ => none) ns us)
theorem fresh_key {K : Fr} {h : Heap} {a : Addr} (X : K.In h) (hb : h.objs.size ≤ a) : K.lookup a = none := by
  cases e : K.lookup a with
  | none => rfl
  | some o => exact absurd (Heap.lt_size (X _ _ e)) (Nat.not_lt.mpr hb)
theorem exc_init {s : Shared} {R : Result → Shared → Prop} (T : XC K mg C ns Ca fI) {x t0 : Addr} {us : List Value} (hus : us.length = ns.length) (X : K.In s.heap) (hlim : s.heap.NoLimit) (hx : s.heap.get? x = some (excO Ca t0)) (hnx : K.lookup x = none) (hroom : A.depth < recursionLimit)
    (hq : ∀ h' tk dx, InitEnd s.heap h' x Ca dx t0 ns us → R (.ok (.ret .none)) { s with heap := h', toks := tk }) :
    codeAny (model prog w) A (.call (.ref fI) ⟨.ref x :: us, []⟩) R s := by
  obtain ⟨nm, qual, params, body, scope, fd, F, hb, hbind, hco, hgen, hkind, hself⟩ := T.fn
  obtain ⟨oc, od, dV, kV, doc, pm, an, cdv, ct, osl, rfl, lk, hcd, _, _⟩ := F.ex
  have bd := hbind s (.ref x :: us) X (by simp [hus])
  rw [List.append_nil] at bd
  have hloc : ∀ f ∈ ns, scope.names.lookup f = some .local := by
    have key : ∀ (fs : List Str) (b : List Stmt), initB scope fs b = true → ∀ f ∈ fs, scope.names.lookup f = some .local := by
      intro fs
      induction fs with
      | nil => intro b _ f hf; cases hf
      | cons g fs ih =>
        intro b h f hf
        obtain ⟨_, _, _, _, r, _, hlf, _, hr⟩ := init_parts h
        rcases List.mem_cons.mp hf with rfl | hf
        · exact hlf
        · exact ih r hr f hf
    exact key ns body hb
  refine Att.call_fn X hlim lk hcd hroom bd ?_ (fun s₁ IC => ?_) hco hgen hkind
  · rw [List.all_eq_true]
    intro y hy
    have hm : y.1 ∈ (("self" : Str) :: ns) := (List.of_mem_zip hy).1
    rcases List.mem_cons.mp hm with e | e
    · rw [e, hself]; rfl
    · rw [hloc _ e]; rfl
  obtain ⟨h₁, tk₁, rfl⟩ := IC.toInCall.same
  have k : ∀ b o, s.heap.get? b = some o → h₁.get? b = some o := IC.toInCall.keep
  have hn := IC.toInCall.ns
  have hL : s.heap.objs.size ≠ x := Nat.ne_of_gt (Heap.lt_size hx)
  have X₁ : K.In h₁ := X.keeps k
  have hx₁ := k _ _ hx
  have zL : s.heap.objs.size < h₁.objs.size := hn.lt
  have get : ∀ (i : Nat) (f : Str) (u : Value), (("self" : Str) :: ns)[i]? = some f → (Value.ref x :: us)[i]? = some u → scope.names.lookup f = some .local → bindL (envOfC qual scope s.heap.objs.size fI cdv).kindOf ((("self" : Str) :: ns).zip (.ref x :: us)) (fun _ => none) f = some u := fun i f u e1 e2 e3 => bindL_get T.nd e1 e2 e3
  have ms := get 0 "self" (.ref x) rfl rfl hself
  cases hns : ns with
  | nil => exact absurd hns T.ne
  | cons f fs =>
    cases hu : us with
    | nil => rw [hns, hu] at hus; cases hus
    | cons u us' =>
      have hb' := hb
      rw [hns] at hb'
      obtain ⟨p1, p2, p3, p4, r, rfl, hlf, hdf, hr⟩ := init_parts hb'
      refine wpAny_execs_cons (plainObj_wpAny_Assign_Attribute ?_)
      refine ld_own hkind hlf hdf hn (get 1 f u (by rw [hns]; rfl) (by rw [hu]; rfl) hlf) (ld_own hkind hself (by decide) hn ms ?_)
      refine set_plain X₁ (ox := excO Ca t0) (od := none) ⟨hx₁, rfl, rfl, trivial⟩ T.sa ?_
      refine exc_first T (by rw [hns]; exact List.mem_cons_self) X₁ hx₁ fun h₃ tk₃ dx k₃ dn dne hx₃ hn₃ => ?_
      have nLx : s.heap.objs.size ≠ x := hL
      have nLd : s.heap.objs.size ≠ dx := Nat.ne_of_lt (Nat.lt_of_lt_of_le zL dn)
      have kd : K.lookup dx = none := fresh_key X₁ dn
      have X₃ : K.In h₃ := fun a o e => k₃ a o (fun z => by rw [z, hnx] at e; cases e) (X₁ a o e)
      refine init_rest T hkind hself ms fs us' r _ [f] ⟨h₃, s.gens, s.drawn, tk₃, s.os⟩ hr (fun g hg => by rw [hns]; exact List.mem_cons_of_mem _ hg) (by rw [hns, hu] at hus; simpa using hus.symm)
        (fun i g v e1 e2 => ?_) X₃ (hn.at fun o e => k₃ _ o nLx e) nLd hx₃ dne.symm hn₃ (Within.cons f u Within.nil) (by have := T.few; rw [hns] at this; simp only [List.length_cons, List.length_nil] at this ⊢; omega) kd _ fun h' tk' k' n' => ?_
      · have e1' : ns[i + 1]? = some g := by rw [hns]; simpa using e1
        have e2' : us[i + 1]? = some v := by rw [hu]; simpa using e2
        exact get (i + 2) g v (by simpa using e1') (by simpa using e2') (hloc g (List.mem_of_getElem? e1'))
      · refine hq h' tk' dx ⟨fun b o hb e => ?_, k' x _ dne.symm hx₃, Nat.le_of_lt (Nat.lt_of_lt_of_le zL dn), dne, by rw [hns, hu]; exact n'⟩
        refine k' b o (fun z => ?_) (k₃ b o hb (k b o e))
        rw [z] at e
        exact absurd (Heap.lt_size e) (Nat.not_lt.mpr (Nat.le_of_lt (Nat.lt_of_lt_of_le zL dn)))
/-- C(..) -/
structure OwnMade (h h' : Heap) (e Ca d : Addr) (ns : List Str) (us : List Value) : Prop where
  keep : ∀ b o, h.get? b = some o → h'.get? b = some o
  new : h.objs.size ≤ e
  obj : ∃ oe vs, h'.get? e = some oe ∧ oe.cls = .ref Ca ∧ oe.dict = some d ∧ oe.data = .fields vs ∧ vs[1]? = some .none
  dbig : h.objs.size ≤ d
  dne : d ≠ e
  ns : h'.Ns1 d (putF (fun _ => none) ns us)
theorem exc_made {s : Shared} {R : Result → Shared → Prop} (T : XC K mg C ns Ca fI) {us : List Value} (hus : us.length = ns.length) (X : K.In s.heap) (hlim : s.heap.NoLimit) (hroom : A.depth + 1 < recursionLimit)
    (hq : ∀ h' tk e d, OwnMade s.heap h' e Ca d ns us → R (.ok (.ret (.ref e))) { s with heap := h', toks := tk }) :
    codeAny (model prog w) A (.call (.ref Ca) ⟨us, []⟩) R s := by
  obtain ⟨nm, N, qn, bs, bm, hdct, sn, sub, ab, col, dd, k0, k1, k2, k3, k5, hC, hT⟩ := excInit_of X T.mkC
  obtain ⟨hp, g, dr, tk, os⟩ := s
  have k : ∀ b o, hp.get? b = some o → ((hp.push (kdv_tup us)).push (excO Ca hp.objs.size)).get? b = some o := fun b o e => Heap.get?_push_of_some _ (Heap.get?_push_of_some _ e)
  have hget : ((hp.push (kdv_tup us)).push (excO Ca hp.objs.size)).get? (hp.objs.size + 1) = some (excO Ca hp.objs.size) := by heap_get
  have hnx : K.lookup (hp.objs.size + 1) = none := fresh_key X (Nat.le_succ _)
  refine HandSPX.call_own F.excBase_ArithmeticError hT hC (looks_findIn X T.iC) (fun self => bind_fn X self T.tC) (by have := T.few; rw [hus, sizeLine_eq]; omega) ?_
  refine exc_init (s := ⟨(hp.push (kdv_tup us)).push (excO Ca hp.objs.size), g, dr, tk, os⟩) T hus (X.keeps k) (hlim.keeps k) hget hnx ?_ fun h' tk' dx ⟨k', hx, dn, dne, hns⟩ => ?_
  · show A.depth + 1 < recursionLimit
    exact hroom
  · have old : ∀ b o, hp.get? b = some o → h'.get? b = some o := fun b o e => k' b o (Nat.ne_of_lt (Nat.lt_succ_of_lt (Heap.lt_size e))) (k b o e)
    have z : hp.objs.size + 1 + 1 ≤ dx := by
      first
        | (simpa only [Heap.size_push] using dn)
        | exact dn
        | (have q := dn; rw [Heap.size_push, Heap.size_push] at q; exact q)
    exact ⟨rfl, hq h' tk' (hp.objs.size + 1) dx ⟨old, Nat.le_succ _, ⟨_, _, hx, rfl, rfl, rfl, rfl⟩, Nat.le_trans (Nat.le_trans (Nat.le_succ _) (Nat.le_succ _)) z, dne, hns⟩⟩
end
theorem relO_skip {m m' : Str → Option Value} : ∀ (fs : List Str) (us : List Value) (g : Str), g ∉ fs → putF m fs us g = m g
  | [], us, g, _ => by cases us <;> rfl
  | f :: fs, [], g, _ => rfl
  | f :: fs, u :: us, g, h => by
    show putF _ fs us g = m g
    rw [relO_skip (m' := m') fs us g fun z => h (List.mem_cons_of_mem _ z)]
    exact if_neg fun z => h (by rw [z]; exact List.mem_cons_self)
theorem relO_put' : ∀ (fs : List Str) (vs : List V) (us : List Value) (m : Str → Option Value) (g : Str), fs.Nodup → Vals vs us → fs.length = us.length → (g ∉ fs → m g = none) → RelO ((fs.zip vs).lookup g) (putF m fs us g)
  | [], vs, us, m, g, nd, r, hl, h => by
    have e : putF m [] us g = m g := by cases us <;> rfl
    rw [e, h (fun z => by cases z)]
    trivial
  | f :: fs, vs, us, m, g, nd, r, hl, h => by
    cases r with
    | nil => cases hl
    | @cons v u vs us r1 r2 =>
      show RelO (((f, v) :: fs.zip vs).lookup g) (putF (fun y => if y = f then some u else m y) fs us g)
      obtain ⟨n1, n2⟩ := List.nodup_cons.mp nd
      by_cases hg : g = f
      · subst hg
        rw [relO_skip (m' := m) fs us g n1]
        have e1 : ((g, v) :: fs.zip vs).lookup g = some v := by simp [List.lookup]
        rw [e1, if_pos rfl]
        exact r1
      · have e1 : ((f, v) :: fs.zip vs).lookup g = (fs.zip vs).lookup g := by
          have q : (g == f) = false := by simpa using hg
          simp [List.lookup, q]
        rw [e1]
        refine relO_put' fs vs us _ g n2 r2 (by simpa using hl) fun hn => ?_
        show (if g = f then some u else m g) = none
        rw [if_neg hg]
        exact h fun z => (List.mem_cons.mp z).elim hg hn
/-- an own class may be raised -/
structure ExcHas (X : Gv) (C : Str) (ns : List Str) : Prop where
  ex : ∃ Ca fI, XC X.K X.mg C ns Ca fI ∧ (C == ("__debug__" : Str)) = false
theorem mk_exc {X : Cx} {C : Str} {ns : List Str} {Ca fI : Addr} (T : XC X.K X.mg C ns Ca fI) (hr : Room 1 X.A) (hd : (C == ("__debug__" : Str)) = false) {e : Expr} {es : List Expr} {tes : List TE} {p pos : Pos} (hg : Gl X C) (hps : PEs X (e :: es) tes) (hst : ∀ x ∈ e :: es, nst x = true) :
    PMk X (.Call (.Name C p) (e :: es) [] pos) (fun σ H Q => runs tes σ H fun vs H1 => vs.length = ns.length ∧ ∀ d, H1 d = none → Q (.ref Ca) (some d) (upd H1 d (.xd (ns.zip vs)))) := by
  intro pins s σ H Q I h
  have star := star_nst (hst e List.mem_cons_self) es X.env
  refine wpAny_Call_Name_kw (ld_glob I hg T.gC ?_ hd)
  refine callWith_K (h₀ := X.base) I.ok.mod.kin T.kC (thn ((pa_of hps hst).run pos pins s σ H _ I h) fun us s1 hh => ?_) star (back_nst (fun x hx => hst x (List.mem_cons_of_mem _ hx)) _ _)
  obtain ⟨vs, H1, I1, r1, hl, q1⟩ := hh
  refine ⟨I1.kIn, ?_⟩
  have hus : us.length = ns.length := by rw [← r1.length]; exact hl
  show wpAny _ _ (call (.ref Ca) us) _ _ _
  have hlim := I1.nolimit
  obtain ⟨hp, g, dr, tk, os⟩ := s1
  refine wpAny_call (exc_made T hus I1.kIn hlim (by have := hr.dp; omega) fun h' tk' e d M => ?_)
  show MkP X pins σ Q (.ref e) ⟨h', g, dr, tk', os⟩
  obtain ⟨oe, fv, hoe, hc, hd, hdat, h1⟩ := M.obj
  have hns := M.ns
  obtain ⟨G', g1, g2⟩ := restrict h' fun b => decide (b ≠ e)
  have gk : ∀ b, b ≠ e → G'.get? b = h'.get? b := fun b hb => g1 b (decide_eq_true hb)
  have ge : G'.get? e = none := g2 e (by simp)
  have old : ∀ b o, hp.get? b = some o → G'.get? b = some o := fun b o q => (gk b (Nat.ne_of_lt (Nat.lt_of_lt_of_le (Heap.lt_size q) M.new))).trans (M.keep b o q)
  have ob : ObjOk X.prog X.w (upd H1 d (.xd (ns.zip vs))) G' d (.xd (ns.zip vs)) :=
    ⟨_, hns.at (fun o q => (gk d M.dne).trans q), fun f => relO_put' ns vs us _ f (List.nodup_cons.mp T.nd).2 r1 hus.symm fun _ => rfl⟩
  have J : Inv X pins σ (upd H1 d (.xd (ns.zip vs))) ⟨G', g, dr, tk', os⟩ := I1.laid (t' := tk') old M.dbig ob
  refine ⟨e, oe, fv, ⟨G', g, dr, tk', os⟩, _, .ref Ca, some d, rfl, J, fun b o q => ?_, ge, hoe, ⟨hc, hd⟩, hdat, h1, ?_, rfl, I1.bare, raises_own T.exC T.tyC, q1 d (I1.hok.fresh M.dbig)⟩
  · by_cases hb : b = e
    · have q' : G'.get? b = some o := q
      rw [hb, ge] at q'; cases q'
    · exact (gk b hb).symm.trans q
  · rw [upd_ne (Ne.symm M.dne)]
    exact I1.hok.fresh M.new
end Pv

set_option maxHeartbeats 2000000
namespace Pv
open PySem PySem.Spec PyProof.Rows L2
/-! ### try with several clauses, each with a name or without -/
abbrev SuT := Addr → Value → Option Addr → TS
/-- the ends behind a suite whose name goes -/
def endsAs (i : Nat) (Dn : Ends) : Ends := { nx := fun s h => Dn.nx (s.set i none) h, rt := Dn.rt, bk := fun s h => Dn.bk (s.set i none) h, ct := fun s h => Dn.ct (s.set i none) h }
def suRun (o : Option Nat) (su : SuT) (a : Addr) (cls : Value) (da : Option Addr) : TS := fun Dn sg H => match o with
  | none => su a cls da Dn sg H
  | some i => su a cls da (endsAs i Dn) (sg.set i (some (.ref a))) H
def wG (K : Fr) (W : WX) (Dn : Ends) : List (Value × Option Nat × SuT) → WX
  | [] => W
  | (c, o, su) :: r => fun cls da sg H => ∃ b, PySem.W.exmOne K cls c = some b ∧ (b = true → ∀ a, H a = none → suRun o su a cls da Dn sg H) ∧ (b = false → wG K W Dn r cls da sg H)
inductive HG (X : Cx) : List ExceptHandler → List (Value × Option Nat × SuT) → Prop
  | nil : HG X [] []
  | bare {x : Str} {c : Value} {su : SuT} {b0 : Stmt} {bs : List Stmt} {p q : Pos} {hs : List ExceptHandler} {l : List (Value × Option Nat × SuT)} (nm : Names X x c)
      (run : ∀ (a : Addr) (oe : Obj) (cls : Value) (da : Option Addr) (pn : List (Addr × Obj)), Zc cls da oe → (∃ vs, oe.data = .fields vs) → PSs (X.suite a ((a, oe) :: pn)) (b0 :: bs) (su a cls da)) (rest : HG X hs l) :
      HG X (.ExceptHandler (some (.Name x p)) none (b0 :: bs) q :: hs) ((c, none, su) :: l)
  | named {x n : Str} {i : Nat} {c : Value} {su : SuT} {b0 : Stmt} {bs : List Stmt} {p q : Pos} {hs : List ExceptHandler} {l : List (Value × Option Nat × SuT)} (nm : Names X x c) (at_ : X.N[i]? = some n) (loc : X.env.kindOf n = some .local)
      (run : ∀ (a : Addr) (oe : Obj) (cls : Value) (da : Option Addr) (pn : List (Addr × Obj)), Zc cls da oe → (∃ vs, oe.data = .fields vs) → PSs (X.suite a ((a, oe) :: pn)) (b0 :: bs) (su a cls da)) (rest : HG X hs l) :
      HG X (.ExceptHandler (some (.Name x p)) (some n) (b0 :: bs) q :: hs) ((c, some i, su) :: l)
section
variable {X : Cx} {W : WX}
/-- an exception that none of the clauses names flies on -/
theorem flies_on {pins : List (Addr × Obj)} {sg : L2.St} {H : Hp} {sI st : Shared} {B hq : Heap} {a : Addr} {cls : Value} {da : Option Addr} {R : Flow → Shared → Prop} (stk : X.stack = X.env :: X.outer) (fr : X.env.frame = some X.env.locals) (tk : Takes X W)
    (J : Inv X pins sg H sI) (nb : ∀ b o, sI.heap.get? b = some o → b ∉ frs X.stack → B.get? b = some o) (up : sI.heap.UpToSlots hq) (fl : HandSPX.FlyingZ B (X.env :: X.outer) a (Zc cls da) hq) (na : H a = none) (os : st.os = sI.os) (ag : AllBare st.gens) (w : W cls da sg H) :
    wpAny (model X.prog X.w) X.A (handleBy (.ref a) X.env []) R X.xe { st with heap := hq } := by
  refine wpAny_handleBy_nil ?_
  obtain ⟨_, _, _, oe, fv, T, _, _, there, _, dat, tb, _⟩ := id fl
  have last : wpAny (model X.prog X.w) X.A (setFlight (.ref a) X.env.frame) (fun _ s4 => wpAny (model X.prog X.w) X.A (throw (.ref a) : Sem Flow) R X.xe s4) X.xe { st with heap := hq } := by
    rw [fr]
    refine HandSPX.setFlight_upZ fl fun h4 held up4 => wpAny_throw (tk _ _ ⟨a, B, sI, pins, sg, H, cls, da, rfl, J, nb, up.trans up4, .inr (.inr ?_), na, os, ag, w⟩)
    rw [stk]
    exact held
  unfold PySem.passOn
  refine wpAny_bind (wpAny_field there dat tb ?_)
  rw [if_neg (by simp)]
  first
    | exact wpAny_bind (wpAny_pure (wpAny_bind last))
    | exact wpAny_bind last
/-- A TRY -/
theorem ps_tryG {body : List Stmt} {h0 : ExceptHandler} {hs : List ExceptHandler} {l : List (Value × Option Nat × SuT)} {pos : Pos} {tb : WX → TS} (stk : X.stack = X.env :: X.outer) (fr : X.env.frame = some X.env.locals) (nd : X.N.Nodup) (tk : Takes X W)
    (inner : ∀ (V : WX) (pn : List (Addr × Obj)) (xe : Value → Shared → Prop), Takes (X.tr pn xe) V → PassesOwn (model X.prog X.w) X.A X.env xe → PSs (X.tr pn xe) body (tb V)) (hh : HG X (h0 :: hs) l) :
    PS X (.Try body (h0 :: hs) [] [] pos) (fun Dn sg H => tb (wG X.K W Dn l) Dn sg H) := by
  refine ⟨fun pins s sg H Dn I h => wpAny_Try_except ?_⟩
  have ok := I.ok
  have frs0 : X.A.frames = some (X.env :: X.outer) := ok.frames.trans (by rw [stk])
  refine wpAny_mono ((inner (wG X.K W Dn l) (X.pn ++ pins) (fun e s1 => wpAny (model X.prog X.w) X.A (noteFrame e X.env) (fun _ s2 => wpAny (model X.prog X.w) X.A (setFlight e none)
    (fun _ s3 => wpAny (model X.prog X.w) X.A (handleBy e X.env (h0 :: hs)) (L2.SP X pins Dn) X.xe s3) X.xe s2) X.xe s1) (fun u st air => ?_) PassesOwn.looking).run [] s sg H Dn (I.toTry _) h) (fun f s1 got => ?_) fun e s1 he => he
  · obtain ⟨a, B, sI, pins', sg', H', cls, da, rfl, J0, nb, up, sky, na, os, ag, w⟩ := air
    have J : Inv X pins sg' H' sI := J0.ofTry ok
    have sk : Sky B (X.env :: X.outer) a (Zc cls da) X.env.locals st.heap := stk ▸ sky
    refine Sky.land Zc.steady frs0 fr sk fun h3 fl up3 => ?_
    have J3 : Inv X pins sg' H' { st with heap := h3 } := J.landed nb fl.1 (up.trans up3) os ag
    obtain ⟨oe, fv, there, zc, dat⟩ := fl.there
    have off : a ∉ frs (X.env :: X.outer) := fun hm => by
      obtain ⟨_, o', e', nf⟩ := fl.2.2.1.mem hm
      rw [there] at e'
      cases e'
      exact nf _ dat
    have offL : a ≠ X.env.locals := fun z => off (List.mem_filterMap.mpr ⟨X.env, List.mem_cons_self, by rw [fr, z]⟩)
    have offF : a ∉ X.fs := fun hm => by
      obtain ⟨e, he, q⟩ := List.mem_filterMap.mp hm
      exact off (List.mem_filterMap.mpr ⟨e, List.mem_cons_of_mem _ he, q⟩)
    have S3 := J3.suite there dat na offL offF
    have looks : ∀ {c : Value} {b : Bool}, PySem.W.exmOne X.K cls c = some b → PySem.W.Looks (model X.prog X.w) h3 _ b := fun {c b} eb =>
      PySem.W.exm_one (M := model X.prog X.w) J3.kIn (fun A Q E s k q => wpAny_typeOf_ref (k _ _ there) (by rw [zc.1]; exact q)) eb
    have name : ∀ {x : Str} {c : Value} {p : Pos} {Q : Value → Shared → Prop} {E : Value → Shared → Prop}, Names X x c → Q c { st with heap := h3 } → wpAny (model X.prog X.w) (X.A.mark (some (.ref a))) (eval (.Name x p) X.env) Q E { st with heap := h3 } := fun {x c p Q E} nm q => by
      obtain ⟨hg, hd, hm | ⟨hm, hv, hn⟩⟩ := nm
      · exact ld_glob (X := X.suite a ((a, oe) :: (X.pn ++ pins))) S3 hg hm q hd
      · exact ld_blt (X := X.suite a ((a, oe) :: (X.pn ++ pins))) S3 hg hm hv q hn hd
    have walk : ∀ {hs' : List ExceptHandler} {l' : List (Value × Option Nat × SuT)}, HG X hs' l' → wG X.K W Dn l' cls da sg' H' → wpAny (model X.prog X.w) X.A (handleBy (.ref a) X.env hs') (L2.SP X pins Dn) X.xe { st with heap := h3 } := by
      intro hs' l' hk
      induction hk with
      | nil => exact fun w => flies_on stk fr tk J nb (up.trans up3) fl na os ag w
      | @bare x c su b0 bs p q hs2 l2 nm run rest ih =>
        rintro ⟨b, eb, yes, no⟩
        refine wpAny_handleBy_cons (codeAny_handlers_test ?_) (by intro q; cases q)
        refine name nm ((looks eb).here ?_)
        cases b with
        | false => exact ih (no rfl)
        | true =>
          refine codeAny_handlers_suite (HandSPX.lands_againZ fl fun h4 fl4 up4 => ?_)
          have J4 : Inv X pins sg' H' { st with heap := h4 } := J.landed nb fl4.1 ((up.trans up3).trans up4) os ag
          obtain ⟨o4, v4, e4, z4, d4⟩ := fl4.there
          refine wpAny_mono ((run a o4 cls da (X.pn ++ pins) z4 ⟨_, d4⟩).run [] _ _ H' _ (J4.suite e4 d4 na offL offF) (yes rfl a na)) (fun f s6 got => ?_) fun _ _ z => z.elim
          cases f with
          | ret u =>
            obtain ⟨v6, g6, H6, S6, r6, q6⟩ := got
            exact ⟨_, _, _, S6.unsuite ok, r6, q6⟩
          | next =>
            obtain ⟨g6, H6, S6, q6⟩ := got
            exact ⟨_, _, S6.unsuite ok, q6⟩
          | brk =>
            obtain ⟨g6, H6, S6, q6⟩ := got
            exact ⟨_, _, S6.unsuite ok, q6⟩
          | cont =>
            obtain ⟨g6, H6, S6, q6⟩ := got
            exact ⟨_, _, S6.unsuite ok, q6⟩
      | @named x n i c su b0 bs p q hs2 l2 nm at_ loc run rest ih =>
        rintro ⟨b, eb, yes, no⟩
        refine wpAny_handleBy_cons (codeAny_handlers_test ?_) (by intro q; cases q)
        refine name nm ((looks eb).here ?_)
        cases b with
        | false => exact ih (no rfl)
        | true =>
          refine codeAny_handlers_suite_as (HandSPX.lands_againZ fl fun h4 fl4 up4 => ?_)
          have J4 : Inv X pins sg' H' { st with heap := h4 } := J.landed nb fl4.1 ((up.trans up3).trans up4) os ag
          obtain ⟨o4, v4, e4, z4, d4⟩ := fl4.there
          refine store_ok (X := X.suite a ((a, o4) :: (X.pn ++ pins))) (v := .ref a) (J4.suite e4 d4 na offL offF) nd at_ (.inl loc) rfl (fun s5 S5 => ?_) (.inr loc)
          refine wpAny_mono ((run a o4 cls da (X.pn ++ pins) z4 ⟨_, d4⟩).run [] s5 _ H' _ S5 (yes rfl a na)) (fun f s6 got => ?_) fun _ _ z => z.elim
          have out : ∀ {g6 : L2.St} {H6 : Hp} {Q : Shared → Prop}, Inv (X.suite a ((a, o4) :: (X.pn ++ pins))) [] g6 H6 s6 → (∀ s7, Inv X pins (g6.set i none) H6 s7 → Q s7) →
              wpAny (model X.prog X.w) X.A (do bindName X.env n .none; unbindBehindTheSuite X.env n q) (fun _ s7 => Q s7) X.xe s6 := fun S6 hq => gone_ok (S6.unsuite ok) nd at_ loc hq
          cases f with
          | ret u =>
            obtain ⟨v6, g6, H6, S6, r6, q6⟩ := got
            exact out S6 fun s7 J7 => ⟨_, _, _, J7, r6, q6⟩
          | next =>
            obtain ⟨g6, H6, S6, q6⟩ := got
            exact out S6 fun s7 J7 => ⟨_, _, J7, q6⟩
          | brk =>
            obtain ⟨g6, H6, S6, q6⟩ := got
            exact out S6 fun s7 J7 => ⟨_, _, J7, q6⟩
          | cont =>
            obtain ⟨g6, H6, S6, q6⟩ := got
            exact out S6 fun s7 J7 => ⟨_, _, J7, q6⟩
    exact walk hh w
  · cases f with
    | ret u =>
      obtain ⟨v, g1, H1, J1, r, q⟩ := got
      exact ⟨v, g1, H1, J1.ofTry ok, r, q⟩
    | next =>
      obtain ⟨g1, H1, J1, q⟩ := got
      exact wpAny_execs_nil ⟨g1, H1, J1.ofTry ok, q⟩
    | brk =>
      obtain ⟨g1, H1, J1, q⟩ := got
      exact ⟨g1, H1, J1.ofTry ok, q⟩
    | cont =>
      obtain ⟨g1, H1, J1, q⟩ := got
      exact ⟨g1, H1, J1.ofTry ok, q⟩
end
end Pv

set_option maxHeartbeats 2000000
namespace Pv
open PySem PySem.Spec PyProof.Rows L2
/-! ### what an except suite may tell: a constant, a field of the caught one, whether it is of a class, whether a field is of a type -/
inductive XA where
  | con (d : D)
  | fld (f : Str)
  | isE (B : Str)
  | isF (f : Str) (T : String)
inductive XS where
  | one (a : XA)
  | tup (as : List XA)
def fldOf (x : Exc) (f : Str) : Option D := (x.ns.zip x.xs).lookup f
def evXA (x : Exc) : XA → Option D
  | .con d => some d
  | .fld f => fldOf x f
  | .isE _ => some (.bl true)
  | .isF f T => ob (fldOf x f) (dIs T)
def evXAs (x : Exc) : List XA → Option (List D)
  | [] => some []
  | a :: as => ob (evXA x a) fun d => ob (evXAs x as) fun ds => some (d :: ds)
def evXS (x : Exc) : XS → Option D
  | .one a => evXA x a
  | .tup as => ob (evXAs x as) fun ds => if ds.length ≤ 1000 then some (.tup ds) else none
/-- a clause: the class, the slot of its name, what it answers -/
structure Cl where
  C : Str
  o : Option Nat
  s : XS
def pickX (io : List Nat) (x : Exc) (rs : List D) : List Cl → Option Fl
  | [] => some (.exc x rs)
  | k :: r => if x.C = k.C then ob (evXS x k.s) fun d => match k.o with
      | none => some (.ret d rs)
      | some i => if okS io rs.length i then some (.ret d (rs.set i .un)) else none
    else pickX io x rs r
def slB (c : Ce) (i : Nat) (x : Str) : Bool := decide (c.N[i]? = some x) && visB c.sc x
def gnB (c : Ce) (x y : Str) : Bool := decide (x = y) && glB c.sc x
def chkXA (c : Ce) (fs bs : List Str) (i : Nat) : XA → Expr → Bool
  | .con d, .Constant k _ _ => conB d k
  | .fld f, .Attribute (.Name x _) g _ => slB c i x && (decide (g = f) && fs.contains f)
  | .isE B, .Call (.Name y _) [.Name x _, .Name z _] [] _ => gnB c y "isinstance" && (slB c i x && (gnB c z B && bs.contains B))
  | .isF f T, .Call (.Name y _) [.Attribute (.Name x _) g _, .Name z _] [] _ => gnB c y "isinstance" && (slB c i x && ((decide (g = f) && fs.contains f) && (gnB c z (Str.ofString T) && decide (T = "tuple"))))
  | _, _ => false
def chkXAs (c : Ce) (fs bs : List Str) (i : Nat) : List XA → List Expr → Bool
  | [], [] => true
  | a :: as, e :: es => chkXA c fs bs i a e && chkXAs c fs bs i as es
  | _, _ => false
def chkXS (c : Ce) (fs bs : List Str) (i : Nat) : XS → Expr → Bool
  | .one a, e => chkXA c fs bs i a e
  | .tup as, .Tuple es _ _ => chkXAs c fs bs i as es
  | _, _ => false
def chkCls (c : Ce) (cs fs bs : List Str) : List Cl → List ExceptHandler → Bool
  | [], [] => true
  | k :: r, .ExceptHandler (some (.Name x _)) on [.Return (some e) _] _ :: hs => (gnB c x k.C && cs.contains k.C) && ((match k.o, on with
      | none, none => chkXS c fs bs 100000 k.s e
      | some i, some n => (decide (c.N[i]? = some n) && (c.sc.names.lookup n == some .local)) && chkXS c fs bs i k.s e
      | _, _ => false) && chkCls c cs fs bs r hs)
  | _, _ => false
/-- the classes that may fly, their fields, their bases -/
structure XTab (X : Gv) (cs fs bs : List Str) : Prop where
  ex : ∀ C ∈ cs, ∃ Ca, X.mg C = some (.ref Ca) ∧ L2.XfC X.K Ca ∧ L2.ExcC X.K Ca ∧ (∀ f ∈ fs, PySem.W.findIn X.K (.ref Ca) f = some none) ∧
    (∀ C' ∈ cs, ∃ Cb, X.mg C' = some (.ref Cb) ∧ PySem.W.exmOne X.K (.ref Ca) (.ref Cb) = some (decide (C = C'))) ∧ ∀ B ∈ bs, ∃ Ba, X.mg B = some (.ref Ba) ∧ PySem.W.kitOne X.K (.ref Ca) (.ref Ba) = some true
  isi : X.mg "isinstance" = none
  tup : X.mg (Str.ofString "tuple") = none
/-! ### readings -/
def adr (mg : Str → Option Value) (C : Str) : Addr := match mg C with
  | some (.ref a) => a
  | _ => 0
theorem adr_of {mg : Str → Option Value} {C : Str} {a : Addr} (h : mg C = some (.ref a)) : adr mg C = a := by unfold adr; rw [h]
def vOf : D → V
  | .bl b => .bl b
  | .int i => .int i
  | .str s => .str s
  | _ => .non
/-- isinstance(e, c), e the caught one, whose fields stand -/
def rIsG (K : Fr) (Ca a : Addr) (cls : Value) (da : Option Addr) : List V → Hp → VK → Prop := fun xs H Q => ∃ (c : V) (cv : Value) (b : Bool) (dd : Addr) (fs : List (Str × V)), xs = [.ref a, c] ∧ (∀ u, RelV c u → u = cv) ∧ PySem.W.kitOne K (.ref Ca) cv = some b ∧ cls = .ref Ca ∧ da = some dd ∧ H dd = some (.xd fs) ∧ Q (.bl b) H
def tXA (X : Cx) (Ca : Addr) (i : Nat) (a : Addr) (cls : Value) (da : Option Addr) : XA → TE
  | .con d => tC (vOf d)
  | .fld f => tXf a cls da Ca f (tVar i)
  | .isE B => tCB (rIsG X.K Ca a cls da) (runs [tVar i, tC (.ref (adr X.mg B))])
  | .isF f T => tCB (rIs X T) (runs [tXf a cls da Ca f (tVar i), tC (.ty T)])
def tXS (X : Cx) (Ca : Addr) (i : Nat) : XS → SuT
  | .one x => fun a cls da => tRet (tXA X Ca i a cls da x)
  | .tup xs => fun a cls da => tRet (tTup (runs (xs.map (tXA X Ca i a cls da))))
def tCl (X : Cx) (k : Cl) : Value × Option Nat × SuT := (.ref (adr X.mg k.C), k.o, tXS X (adr X.mg k.C) (k.o.getD 100000) k.s)
section
variable {X : Cx} {W : WX} {c : Ce} {km : Nat} {io : List Nat}
theorem call_isG {a Ca : Addr} {oe : Obj} {cls : Value} {da : Option Addr} {pn : List (Addr × Obj)} (C : L2.ExcC X.K Ca) (hz : Zc cls da oe) (hf : ∃ vs, oe.data = .fields vs) : CallR (X.suite a ((a, oe) :: pn)) (.builtin "isinstance") (rIsG X.K Ca a cls da) := by
  intro pins s σ H xs us Q I r h
  obtain ⟨v, cv, b, dd, fs, rfl, hcv, e, rfl, rfl, ea, q⟩ := h
  cases r with
  | cons rx rr =>
    cases rr with
    | cons rt rr =>
      cases rr
      cases rx
      have ec := hcv _ rt
      subst ec
      obtain ⟨hget, _⟩ := I.pin (a, oe) (List.mem_append.mpr (.inl List.mem_cons_self))
      obtain ⟨vs, hv⟩ := hf
      have hx : ObjOk X.prog X.w H s.heap dd (.xd fs) := I.hok dd _ ea
      obtain ⟨mA, hns, _⟩ := hx
      obtain ⟨od, ho, _⟩ := lookIn_ns hns
      have J : PySem.W.InstAt s.heap a oe Ca (some od) := ⟨hget, hz.1, by unfold PySem.W.notCls; rw [hv] <;> rfl, by rw [hz.2]; exact ho⟩
      have hcl : (PySem.W.clsIn X.K Ca).isSome = true := by
        obtain ⟨cd, hc, _⟩ := PySem.W.any_some C.hd
        rw [hc] <;> rfl
      exact PySem.W.kia_one (PySem.W.kitx_exc hcl C.hg C.hk C.hs C.ha C.hn C.ht C.hm) I.kIn J e (fun z => nomatch z) fun tk => ⟨.bl b, H, I.kept (t' := tk) fun _ _ z => z, rfl, q⟩
theorem con_vOf {d : D} {k : Const} {n : Nat} {pos : Pos} (h : conB d k = true) : PE X (.Constant k n pos) (tC (vOf d)) ∧ isSc d = true ∧ ∀ G H, Rep X.K X.mg G H d (vOf d) (fun _ => False) := by
  cases d with
  | non => cases k <;> first | (cases h; done) | exact ⟨pe_non, rfl, fun _ _ => rep_non⟩
  | bl b =>
    cases k <;> first | (cases h; done) | skip
    rename_i b'
    have e : b = b' := eq_of_beq h
    subst e
    exact ⟨pe_bl, rfl, fun _ _ => rep_bl⟩
  | int b =>
    cases k <;> first | (cases h; done) | skip
    rename_i b'
    have e : b = b' := of_decide_eq_true h
    subst e
    exact ⟨pe_int, rfl, fun _ _ => rep_int⟩
  | str b =>
    cases k <;> first | (cases h; done) | skip
    rename_i b'
    have e : b = b' := of_decide_eq_true h
    subst e
    exact ⟨pe_str, rfl, fun _ _ => rep_str⟩
  | _ => cases k <;> cases h
theorem Good.su (g : Good X W c km) {a : Addr} {pn : List (Addr × Obj)} {i : Nat} {x : Str} {pos : Pos} (h : slB c i x = true) : PE (X.suite a pn) (.Name x pos) (tVar i) := by
  obtain ⟨h1, h2⟩ := ands h
  obtain ⟨h2, h3, h4⟩ := vis_of h2
  refine pe_var (X := X.suite a pn) (by show X.N[i]? = _; rw [g.N]; exact of_decide_eq_true h1) ?_ h3 h4
  show X.env.scope.names.lookup x = _ ∨ _ ∨ _
  rw [g.sc]; exact h2
theorem Good.gn (g : Good X W c km) {x y : Str} (h : gnB c x y = true) : x = y ∧ (Gl X x ∧ (x == ("__debug__" : Str)) = false ∧ x ≠ "__name__") := by
  obtain ⟨h1, h2⟩ := ands h
  exact ⟨of_decide_eq_true h1, g.gl h2⟩
theorem fld_at {K : Fr} {mg : Str → Option Value} {H : Hp} {f : Str} {d : D} : ∀ {fs : List (Str × V)} {xs : List D}, Vws K mg H xs (fs.map (·.2)) → isScs xs = true → ((fs.map (·.1)).zip xs).lookup f = some d → ∃ v, fs.lookup f = some v ∧ Vw K mg H d v ∧ isSc d = true
  | [], xs, _, _, e => by simp at e
  | (g, v) :: fs, xs, h, hs, e => by
    cases xs with
    | nil => simp at e
    | cons x xs =>
      obtain ⟨h1, h2⟩ := vws_cons (show Vws K mg H (x :: xs) (v :: fs.map (·.2)) from h)
      obtain ⟨s1, s2⟩ := ands (show (isSc x && isScs xs) = true from hs)
      by_cases q : (f == g) = true
      · have e1 : (((g, v) :: fs).map (·.1) |>.zip (x :: xs)).lookup f = some x := by simp [List.lookup, q]
        rw [e1] at e
        cases e
        exact ⟨v, by simp [List.lookup, q], h1, s1⟩
      · have q' : (f == g) = false := by simpa using q
        have e1 : (((g, v) :: fs).map (·.1) |>.zip (x :: xs)).lookup f = ((fs.map (·.1)).zip xs).lookup f := by simp [List.lookup, q']
        rw [e1] at e
        obtain ⟨w, k1, k2, k3⟩ := fld_at h2 s2 e
        exact ⟨w, by simp [List.lookup, q', k1], k2, k3⟩
/-- one word of a suite, the text -/
theorem xa_pe (g : Good X W c km) {cs fs bs : List Str} (T : XTab (gvOf X) cs fs bs) {C : Str} (hC : C ∈ cs) {i : Nat} {xa : XA} {e : Expr} (h : chkXA c fs bs i xa e = true) {a : Addr} {oe : Obj} {cls : Value} {da : Option Addr} {pn : List (Addr × Obj)} (hz : Zc cls da oe) (hf : ∃ vs, oe.data = .fields vs) :
    PE (X.suite a ((a, oe) :: pn)) e (tXA X (adr X.mg C) i a cls da xa) ∧ nst e = true := by
  obtain ⟨Ca, hm, xf, xc, hno, hex, hb⟩ := T.ex C hC
  have hm : X.mg C = some (.ref Ca) := hm
  rw [adr_of hm]
  cases xa with
  | con d =>
    cases e <;> first | (cases h; done) | skip
    exact ⟨(con_vOf h).1, rfl⟩
  | fld f =>
    cases e <;> first | (cases h; done) | skip
    rename_i v n p
    cases v <;> first | (cases h; done) | skip
    obtain ⟨h1, h2⟩ := ands h
    obtain ⟨h2, h3⟩ := ands h2
    have e2 : n = f := of_decide_eq_true h2
    subst e2
    exact ⟨pe_xf xf (hno _ (by simpa using h3)) hz hf (g.su h1), rfl⟩
  | isE B =>
    cases e <;> first | (cases h; done) | skip
    rename_i fn es kws pos
    cases fn <;> first | (cases h; done) | skip
    rename_i y p
    match es, kws, h with
    | [.Name x p1, .Name z p2], [], h =>
      obtain ⟨h1, h2⟩ := ands h
      obtain ⟨h5, h3⟩ := ands h2
      obtain ⟨h3, h4⟩ := ands h3
      obtain ⟨e1, g1⟩ := g.gn h1
      obtain ⟨e3, g3⟩ := g.gn h3
      subst e1
      subst e3
      obtain ⟨Ba, hB, _⟩ := hb z (by simpa using h4)
      have hB : X.mg z = some (.ref Ba) := hB
      refine ⟨?_, rfl⟩
      have pz : PE (X.suite a ((a, oe) :: pn)) (.Name z p2) (tC (.ref (adr X.mg z))) := pe_glob (X := X.suite a ((a, oe) :: pn)) g3.1 hB (by rw [adr_of hB]; rfl) g3.2.1
      exact pe_callB (X := X.suite a ((a, oe) :: pn)) (call_isG xc hz hf) g1.1 T.isi (by decide +kernel) (pa_of (.cons (g.su h5) (.one pz)) (fun e he => by
        simp only [List.mem_cons, List.not_mem_nil, or_false] at he
        rcases he with rfl | rfl <;> rfl)) g1.2.2 g1.2.1 rfl rfl
    | _, _ :: _, h => simp [chkXA] at h
  | isF f T' =>
    cases e <;> first | (cases h; done) | skip
    rename_i fn es kws pos
    cases fn <;> first | (cases h; done) | skip
    rename_i y p
    match es, kws, h with
    | [.Attribute (.Name x p0) n p1, .Name z p2], [], h =>
      obtain ⟨h1, h2⟩ := ands h
      obtain ⟨h7, h3⟩ := ands h2
      obtain ⟨h3, h4⟩ := ands h3
      obtain ⟨h3, h5⟩ := ands h3
      obtain ⟨h4, h6⟩ := ands h4
      obtain ⟨e1, g1⟩ := g.gn h1
      obtain ⟨e3, g3⟩ := g.gn h4
      have e2 : n = f := of_decide_eq_true h3
      subst e2
      have e6 : T' = "tuple" := of_decide_eq_true h6
      subst e6
      exact ⟨pe_isi (X := X.suite a ((a, oe) :: pn)) e1 e3 (by decide) g1 g3 T.isi T.tup rfl (pe_xf xf (hno _ (by simpa using h5)) hz hf (g.su h7)), rfl⟩
    | _, _ :: _, h => simp [chkXA] at h
/-- .. and what it tells -/
theorem xa_ev {cs fs bs : List Str} (T : XTab (gvOf X) cs fs bs) {x : Exc} (hC : x.C ∈ cs) {i : Nat} {xa : XA} {e : Expr} (h : chkXA c fs bs i xa e = true) {d : D} (ev : evXA x xa = some d) {a : Addr} {cls : Value} {da : Option Addr} {sg : L2.St} {H : Hp} {Q : VK} (xr : XRep X.K X.mg x cls da H)
    (hs : ∀ i', i = i' → i' ≠ 100000 → sg[i]? = some (some (.ref a))) (hN : ∀ y, slB c i y = true → i ≠ 100000) (q : ∀ v, Vw X.K X.mg H d v → isSc d = true → Q v H) : tXA X (adr X.mg x.C) i a cls da xa sg H Q := by
  obtain ⟨Ca, hm, xf, xc, hno, hex, hb⟩ := T.ex x.C hC
  have hm : X.mg x.C = some (.ref Ca) := hm
  rw [adr_of hm]
  obtain ⟨Ca', dd, fl, e1, e2, e3, e4, e5, e6, e7⟩ := xr.ex
  rw [hm] at e2
  cases e2
  have fd : ∀ {f : Str} {d : D} {Q : VK}, fldOf x f = some d → (∃ y, slB c i y = true) → (∀ v, Vw X.K X.mg H d v → isSc d = true → Q v H) → tXf a cls da Ca f (tVar i) sg H Q := by
    intro f d Q ef ⟨y, hy⟩ q
    unfold fldOf at ef
    rw [← e5] at ef
    obtain ⟨v, k1, k2, k3⟩ := fld_at e6 e7 ef
    exact ⟨_, hs i rfl (hN y hy), rfl, e1, dd, fl, v, e3, e4, k1, q v k2 k3⟩
  cases xa with
  | con d' =>
    cases ev
    cases e <;> first | (cases h; done) | skip
    obtain ⟨_, k2, k3⟩ := con_vOf (X := X) (n := 0) (pos := ⟨0, 0, 0, 0⟩) h
    exact q _ (k3 H H) k2
  | fld f =>
    cases e <;> first | (cases h; done) | skip
    rename_i v n p
    cases v <;> first | (cases h; done) | skip
    exact fd ev ⟨_, (ands h).1⟩ q
  | isE B =>
    cases ev
    cases e <;> first | (cases h; done) | skip
    rename_i fn es kws pos
    cases fn <;> first | (cases h; done) | skip
    rename_i y p
    match es, kws, h with
    | [.Name x' p1, .Name z p2], [], h =>
      obtain ⟨h1, h2⟩ := ands h
      obtain ⟨h2, h3⟩ := ands h2
      obtain ⟨h3, h4⟩ := ands h3
      obtain ⟨Ba, hB, hk⟩ := hb B (by simpa using h4)
      have hB : X.mg B = some (.ref Ba) := hB
      refine ⟨_, hs i rfl (hN _ h2), ?_⟩
      refine ⟨.ref (adr X.mg B), .ref Ba, true, dd, fl, rfl, fun u r => ?_, hk, e1, e3, e4, q _ rep_bl rfl⟩
      rw [adr_of hB] at r
      exact r
    | _, _ :: _, h => simp [chkXA] at h
  | isF f T' =>
    obtain ⟨d', ef, ev⟩ := ob_some (show ob (fldOf x f) (dIs T') = some d from ev)
    cases e <;> first | (cases h; done) | skip
    rename_i fn es kws pos
    cases fn <;> first | (cases h; done) | skip
    rename_i y p
    match es, kws, h with
    | [.Attribute (.Name x' p0) n p1, .Name z p2], [], h =>
      obtain ⟨h1, h2⟩ := ands h
      obtain ⟨h2, h3⟩ := ands h2
      refine fd ef ⟨_, h2⟩ fun v hv _ => ⟨v, _, rfl, rfl, d', d, hv, ev, fun w hw => q w hw ?_⟩
      unfold dIs at ev
      split at ev
      · obtain ⟨k, _, rfl⟩ := Option.map_eq_some_iff.mp ev
        rfl
      · cases ev
    | _, _ :: _, h => simp [chkXA] at h
theorem xas_pe (g : Good X W c km) {cs fs bs : List Str} (T : XTab (gvOf X) cs fs bs) {C : Str} (hC : C ∈ cs) {i : Nat} {a : Addr} {oe : Obj} {cls : Value} {da : Option Addr} {pn : List (Addr × Obj)} (hz : Zc cls da oe) (hf : ∃ vs, oe.data = .fields vs) :
    ∀ {xs : List XA} {es : List Expr}, chkXAs c fs bs i xs es = true → PEs (X.suite a ((a, oe) :: pn)) es (xs.map (tXA X (adr X.mg C) i a cls da)) ∧ ∀ e ∈ es, nst e = true
  | [], [], _ => ⟨.nil, fun e he => by cases he⟩
  | x :: xs, e :: es, h => by
    obtain ⟨h1, h2⟩ := ands (show (chkXA c fs bs i x e && chkXAs c fs bs i xs es) = true from h)
    obtain ⟨p1, n1⟩ := xa_pe g T hC h1 hz hf
    obtain ⟨p2, n2⟩ := xas_pe g T hC hz hf h2
    exact ⟨.cons p1 p2, fun y hy => (List.mem_cons.mp hy).elim (fun z => z ▸ n1) (n2 y)⟩
  | [], _ :: _, h => by simp [chkXAs] at h
  | _ :: _, [], h => by simp [chkXAs] at h
theorem xas_ev {cs fs bs : List Str} (T : XTab (gvOf X) cs fs bs) {x : Exc} (hC : x.C ∈ cs) {i : Nat} {a : Addr} {cls : Value} {da : Option Addr} {sg : L2.St} {H : Hp} (xr : XRep X.K X.mg x cls da H)
    (hs : ∀ i', i = i' → i' ≠ 100000 → sg[i]? = some (some (.ref a))) (hN : ∀ y, slB c i y = true → i ≠ 100000) : ∀ {xs : List XA} {es : List Expr} {ds : List D} {Q : List V → Hp → Prop}, chkXAs c fs bs i xs es = true → evXAs x xs = some ds → (∀ vs, Vws X.K X.mg H ds vs → isScs ds = true → Q vs H) →
      runs (xs.map (tXA X (adr X.mg x.C) i a cls da)) sg H Q
  | [], [], ds, Q, _, ev, q => by
    cases ev
    exact q [] (by simp [Vws, Reps]) rfl
  | xa :: xs, e :: es, ds, Q, h, ev, q => by
    obtain ⟨h1, h2⟩ := ands (show (chkXA c fs bs i xa e && chkXAs c fs bs i xs es) = true from h)
    obtain ⟨d, ev1, ev⟩ := ob_some ev
    obtain ⟨ds', ev2, ev⟩ := ob_some ev
    cases ev
    exact xa_ev T hC h1 ev1 xr hs hN fun v hv hsc => xas_ev T hC xr hs hN h2 ev2 fun vs hvs hscs => q (v :: vs) (vws_mk hv hvs) (by simp [isScs, hsc, hscs])
  | [], _ :: _, _, _, h, _, _ => by simp [chkXAs] at h
  | _ :: _, [], _, _, h, _, _ => by simp [chkXAs] at h
/-- a suite, the text -/
theorem xs_ps (g : Good X W c km) {cs fs bs : List Str} (T : XTab (gvOf X) cs fs bs) {C : Str} (hC : C ∈ cs) {i : Nat} {xs : XS} {e : Expr} {p : Pos} (h : chkXS c fs bs i xs e = true) (a : Addr) (oe : Obj) (cls : Value) (da : Option Addr) (pn : List (Addr × Obj)) (hz : Zc cls da oe) (hf : ∃ vs, oe.data = .fields vs) :
    PSs (X.suite a ((a, oe) :: pn)) [.Return (some e) p] (tXS X (adr X.mg C) i xs a cls da) := by
  cases xs with
  | one x => exact pss_one (ps_ret (xa_pe g T hC h hz hf).1)
  | tup xs =>
    cases e <;> first | (cases h; done) | skip
    obtain ⟨h1, h2⟩ := xas_pe g T hC hz hf h
    exact pss_one (ps_ret (pe_tup (pa_of h1 h2)))
theorem xs_ev {cs fs bs : List Str} (T : XTab (gvOf X) cs fs bs) {x : Exc} (hC : x.C ∈ cs) {i : Nat} {xs : XS} {e : Expr} (h : chkXS c fs bs i xs e = true) {d : D} (ev : evXS x xs = some d) {a : Addr} {cls : Value} {da : Option Addr} {sg : L2.St} {G H : Hp} {fp : FP} {rs : List D} {Dn : Ends} (xr : XRep X.K X.mg x cls da H)
    (hs : ∀ i', i = i' → i' ≠ 100000 → sg[i]? = some (some (.ref a))) (hN : ∀ y, slB c i y = true → i ≠ 100000) (r : R X.K X.mg G H [] [] rs sg fp)
    (q : ∀ v H' fp', Step X.K G H fp G H' fp' → R X.K X.mg G H' [d] [v] rs sg fp' → Dn.rt v H') : tXS X (adr X.mg x.C) i xs a cls da Dn sg H := by
  cases xs with
  | one xa =>
    exact xa_ev T hC h ev xr hs hN fun v hv hsc => q v H fp .refl (r.pushE (sc_any hsc hv))
  | tup xs =>
    cases e <;> first | (cases h; done) | skip
    obtain ⟨ds, ev1, ev⟩ := ob_some (show ob (evXAs x xs) (fun ds => if ds.length ≤ 1000 then some (.tup ds) else none) = some d from ev)
    split at ev
    case isFalse => cases ev
    rename_i hl
    cases ev
    refine xas_ev T hC xr hs hN h ev1 fun vs hvs hscs => ?_
    have el := reps_len hvs
    refine ⟨le_line (by omega), fun p hp => ?_⟩
    have r1 := r.pushN (reps_rev (reps_own (G' := G) ds (isOwns_of_sc hscs) hvs)) (fun a z => z.elim) (fun a o _ z => z)
    obtain ⟨f2, r2, st2⟩ := r1.newT (as := ds) (va := vs) el hp
    have st1 : Step X.K G H fp G H (fun a => False ∨ fp a) := .less fun a z => z.elim (fun z => z.elim) id
    exact q _ _ f2 (st1.trans st2) r2
/-- a slot whose value counts no more -/
theorem R.wipe {K : Fr} {mg : Str → Option Value} {G H : Hp} {sg : L2.St} {rs : List D} {fp : FP} {i : Nat} (v : V) (r : R K mg G H [] [] rs sg fp) (hi : i < rs.length) : ∃ fp', R K mg G H [] [] (rs.set i .un) (sg.set i (some v)) fp' ∧ Step K G H fp G H fp' :=
  (r.pushE (d := .un) (v := v) (by simp only [Rep]; exact fun _ z => z)).put hi
theorem hg_of (g : Good X W c km) {cs fs bs : List Str} (T : XTab (gvOf X) cs fs bs) : ∀ {ks : List Cl} {hs : List ExceptHandler}, chkCls c cs fs bs ks hs = true → HG X hs (ks.map (tCl X))
  | [], [], _ => .nil
  | [], _ :: _, h => by simp [chkCls] at h
  | k :: ks, hs, h => by
    obtain ⟨C, o, s⟩ := k
    unfold chkCls at h
    split at h
    · rename_i e2; cases e2
    · rename_i k' r x p on e p1 p2 hs' e2
      cases e2
      obtain ⟨h1, h2⟩ := ands h
      obtain ⟨h1, h3⟩ := ands h1
      obtain ⟨h2, h4⟩ := ands h2
      obtain ⟨rfl, gx⟩ := g.gn h1
      have hC : x ∈ cs := by simpa using h3
      obtain ⟨Ca, hm, _⟩ := T.ex x hC
      have hm : X.mg x = some (.ref Ca) := hm
      have nm : Names X x (.ref (adr X.mg x)) := ⟨gx.1, gx.2.1, .inl (by rw [adr_of hm]; exact hm)⟩
      have ih := hg_of g T h4
      cases o with
      | none =>
        cases on with
        | some _ => cases h2
        | none => exact .bare nm (fun a oe cls da pn hz hf => xs_ps g T hC h2 a oe cls da pn hz hf) ih
      | some i =>
        cases on with
        | none => cases h2
        | some n =>
          obtain ⟨h2, h5⟩ := ands h2
          obtain ⟨h2, h6⟩ := ands h2
          exact .named nm (by rw [g.N]; exact of_decide_eq_true h2) (by show X.env.scope.names.lookup n = _; rw [g.sc]; exact eq_of_beq h6) (fun a oe cls da pn hz hf => xs_ps g T hC h5 a oe cls da pn hz hf) ih
    · cases h
/-- the clauses do what pickX says -/
theorem pick_ok {cs fs bs : List Str} (T : XTab (gvOf X) cs fs bs) (hNl : c.N.length ≤ 1000) {x : Exc} (hC : x.C ∈ cs) : ∀ {ks : List Cl} {hs : List ExceptHandler} {rs : List D} {r : Fl} {cls : Value} {da : Option Addr} {sg : L2.St} {G H : Hp} {fp : FP} {Dn : Ends}, chkCls c cs fs bs ks hs = true → pickX io x rs ks = some r →
    R X.K X.mg G H [] [] rs sg fp → XRep X.K X.mg x cls da H → SPost X W io sg G H fp Dn r → wG X.K W Dn (ks.map (tCl X)) cls da sg H
  | [], hs, rs, r, cls, da, sg, G, H, fp, Dn, h, e, hR, xr, hp => by
    cases e
    exact hp cls da sg G H fp .refl (Kp.refl _ _) hR xr
  | k :: ks, hs, rs, r, cls, da, sg, G, H, fp, Dn, h, e, hR, xr, hp => by
    obtain ⟨C, o, s⟩ := k
    unfold chkCls at h
    split at h
    · rename_i e2; cases e2
    · rename_i k' r' y p on ex p1 p2 hs' e2
      cases e2
      obtain ⟨h1, h2⟩ := ands h
      obtain ⟨h1, h3⟩ := ands h1
      obtain ⟨h2, h4⟩ := ands h2
      obtain ⟨Ca, hm, _, _, _, hex, _⟩ := T.ex x.C hC
      obtain ⟨Cb, hb, em⟩ := hex C (by simpa using h3)
      have hm : X.mg x.C = some (.ref Ca) := hm
      have hb : X.mg C = some (.ref Cb) := hb
      obtain ⟨Ca', dd, fl, c1, c2, _⟩ := xr.ex
      rw [hm] at c2
      cases c2
      have hcls : cls = .ref Ca := c1
      refine ⟨decide (x.C = C), ?_, fun hyes a na => ?_, fun hno => ?_⟩
      · show PySem.W.exmOne X.K cls (.ref (adr X.mg C)) = _
        rw [adr_of hb, hcls]
        exact em
      · have eC : x.C = C := of_decide_eq_true hyes
        simp only [pickX] at e
        rw [if_pos eC] at e
        obtain ⟨d, ev, e⟩ := ob_some e
        show suRun o (tXS X (adr X.mg C) (o.getD 100000) s) a cls da Dn sg H
        rw [← eC]
        cases o with
        | none =>
          cases on with
          | some _ => cases h2
          | none =>
            cases e
            refine xs_ev T hC h2 ev xr (fun i' q1 q2 => absurd q1.symm q2) (fun y hy q => ?_) hR fun v H' fp' st r' => hp v sg G H' fp' st (Kp.refl _ _) r'
            have q1 := of_decide_eq_true (ands hy).1
            have q2 : 100000 < c.N.length := (List.getElem?_eq_some_iff.mp q1).1
            omega
        | some i =>
          cases on with
          | none => cases h2
          | some n =>
            obtain ⟨h2, h5⟩ := ands h2
            have e : (if okS io rs.length i = true then some (Fl.ret d (rs.set i .un)) else none) = some r := e
            split at e
            case isFalse => cases e
            rename_i ho
            cases e
            obtain ⟨o1, o2⟩ := okS_of ho
            obtain ⟨f2, r2, st2⟩ := hR.wipe (.ref a) o2
            have hl : i < sg.length := by rw [← hR.len]; exact o2
            show tXS X (adr X.mg x.C) i s a cls da (endsAs i Dn) (sg.set i (some (.ref a))) H
            refine xs_ev T hC h5 ev xr (fun i' q1 q2 => List.getElem?_set_self hl) (fun y hy q => ?_) r2 fun v H' fp' st r' => hp v _ G H' fp' (st2.trans st) (Kp.set o1) r'
            have q1 := of_decide_eq_true (ands hy).1
            have q2 := (List.getElem?_eq_some_iff.mp q1).1
            omega
      · have nC : ¬ x.C = C := of_decide_eq_false hno
        simp only [pickX] at e
        rw [if_neg nC] at e
        exact pick_ok T hNl hC h4 e hR xr hp
    · cases h
/-! ### a body in a form that doesn't tell its context -/
def tEv (X : Cx) (W : WX) (io : List Nat) (ev : List D → Option Fl) : TS := fun Dn sg H => ∃ rs r G fp, ev rs = some r ∧ R X.K X.mg G H [] [] rs sg fp ∧ SPost X W io sg G H fp Dn r
theorem pss_ev {st : List Stmt} {t : TS} {ev : List D → Option Fl} (h : PSs X st t) (s : SatS X W io t ev) : PSs X st (tEv X W io ev) :=
  ⟨fun pins s0 sg H Dn I ⟨rs, r, G, fp, e, hR, hp⟩ => h.run pins s0 sg H Dn I (s rs r e sg G H fp Dn hR hp)⟩
def tryD (cs : List Str) (ks : List Cl) (io : List Nat) (ev : List D → Option Fl) : List D → Option Fl := fun rs => match ev rs with
  | some (.exc x rs1) => if cs.contains x.C then pickX io x rs1 ks else none
  | r => r
theorem satS_try {cs fs bs : List Str} (T : XTab (gvOf X) cs fs bs) (hNl : c.N.length ≤ 1000) {ks : List Cl} {hs : List ExceptHandler} (hc : chkCls c cs fs bs ks hs = true) (ev : List D → Option Fl) :
    SatS X W io (fun Dn sg H => tEv X (wG X.K W Dn (ks.map (tCl X))) io ev Dn sg H) (tryD cs ks io ev) := by
  intro rs r e sg G H fp Dn hR hp
  unfold tryD at e
  cases q : ev rs with
  | none => rw [q] at e; cases e
  | some r1 =>
    rw [q] at e
    refine ⟨rs, r1, G, fp, q, hR, ?_⟩
    cases r1 with
    | nx rs1 => cases e; exact hp
    | ret d rs1 => cases e; exact hp
    | bk rs1 => cases e; exact hp
    | ct rs1 => cases e; exact hp
    | exc x rs1 =>
      simp only at e
      split at e
      case isFalse => cases e
      rename_i hC
      exact fun cls da sg' G' H' fp' st kp r' xr => pick_ok T hNl (by simpa using hC) hc e r' xr (hp.step st kp)
end
end Pv

set_option maxHeartbeats 2000000
namespace Pv
open PySem PySem.Spec PyProof.Rows L2
/-! ### the language of statements -/
inductive Iter where
  | rng1 (as : Es)
  | rng2 (as : Es)
  | seqL (a : E)
  | enm (a : E)
  | zip (a b : E)
mutual
inductive S where
  | asg (t : Tg) (e : E)
  | sto1 (s : Nat) (j : E) (e : E)
  | sto2 (s : Nat) (j1 j2 : E) (e : E)
  | aug (i : Nat) (p : P2) (e : E)
  | saug2 (s : Nat) (j1 j2 : E) (p : P2) (a : E)
  | app (s : Nat) (e : E)
  | expr (e : E)
  | ret (e : E)
  | retN
  | brk
  | cnt
  | pass
  | ite (c : E) (a b : Ss)
  | whl (c : E) (b : Ss)
  | for_ (t : Tg) (it : Iter) (b : Ss)
  | raise (C : Str) (ns : List Str) (as : Es)
  | tryR (cs fs bs : List Str) (b : Ss) (ks : List Cl)
inductive Ss where
  | nil
  | cons (s : S) (r : Ss)
end
def evI : Iter → List D → Option (Res (List D))
  | .rng1 as, rs => Res.bd (evA as rs) fun as rs1 => match as.map (res rs1) with
    | [.int n] => if rngB n then some (.ok (rngD 0 n.toNat) rs1) else none
    | _ => none
  | .rng2 as, rs => Res.bd (evA as rs) fun as rs1 => match as.map (res rs1) with
    | [.int a, .int b] => if rngB a && rngB b then some (.ok (rngD a (b - a).toNat) rs1) else none
    | _ => none
  | .seqL a, rs => Res.bd (evE a false rs) fun d rs1 => ob (lItems (fz d)) fun xs => some (.ok xs rs1)
  | .enm a, rs => Res.bd (evE a false rs) fun d rs1 => ob (lItems (fz d)) fun xs => some (.ok (enumD 0 xs) rs1)
  | .zip a b, rs => Res.bd (evE a false rs) fun d rs1 => Res.bd (evE b false rs1) fun d2 rs2 => ob (lItems (fz d)) fun xs => ob (lItems (fz d2)) fun ys => some (.ok (zipD xs ys) rs2)
def thenA (r : Option (Res (List Arg))) (f : List Arg → List D → Option Fl) : Option Fl := match r with
  | some (.ok d rs1) => f d rs1
  | some (.exc x rs1) => some (.exc x rs1)
  | none => none
mutual
def evS (n : Nat) (io : List Nat) : S → List D → Option Fl
  | .asg t e, rs => thenE (evE e false rs) fun d rs1 => ob (tgA io t d rs1) fun rs2 => some (.nx rs2)
  | .sto1 s j e, rs => thenE (evE e false rs) fun d rs1 => ob (Pv.sto1 s (evP j rs1) d rs1) fun rs2 => some (.nx rs2)
  | .sto2 s j1 j2 e, rs => thenE (evE e false rs) fun d rs1 => ob (Pv.sto2 s (evP j1 rs1) (evP j2 rs1) d rs1) fun rs2 => some (.nx rs2)
  | .aug i p e, rs => ob (evP (.var i) rs) fun a => ob (asInt a) fun x => thenE (evE e false rs) fun d rs1 => ob (asInt d) fun y => ob (augI p x y) fun z => if okS io rs1.length i then some (.nx (rs1.set i (.int z))) else none
  | .saug2 s j1 j2 p a, rs => ob (evP (.ix (.ix (.var s) j1) j2) rs) fun o => ob (asInt o) fun x => ob (evP a rs) fun b => ob (asInt b) fun y => ob (augI p x y) fun z => ob (Pv.sto2 s (evP j1 rs) (evP j2 rs) (.int z) rs) fun rs2 => some (.nx rs2)
  | .app s e, rs => if isOwnL s rs then thenE (evE e false rs) fun d rs1 => ob (app1 s d rs1) fun rs2 => some (.nx rs2) else none
  | .expr e, rs => thenE (evE e false rs) fun d rs1 => some (.nx rs1)
  | .ret e, rs => thenE (evE e true rs) fun d rs1 => some (.ret d rs1)
  | .retN, rs => some (.ret .non rs)
  | .brk, rs => some (.bk rs)
  | .cnt, rs => some (.ct rs)
  | .pass, rs => some (.nx rs)
  | .ite c a b, rs => thenT (evT c rs) fun k rs1 => if k then evSs n io a rs1 else evSs n io b rs1
  | .whl c b, rs => whlL (evT c) (evSs n io b) n rs
  | .for_ t it b, rs => thenI (evI it rs) fun ds rs1 => forL (tgA io t) (evSs n io b) ds rs1
  | .raise C ns as, rs => thenA (evA as rs) fun as rs1 => if isScs (as.map (res rs1)) && decide ((as.map (res rs1)).length = ns.length) then some (.exc ⟨C, ns, as.map (res rs1)⟩ rs1) else none
  | .tryR cs _ _ b ks, rs => tryD cs ks io (evSs n io b) rs
def evSs (n : Nat) (io : List Nat) : Ss → List D → Option Fl
  | .nil, rs => some (.nx rs)
  | .cons s r, rs => Fl.bd (evS n io s rs) (evSs n io r)
end
/-! ### the text against it -/
def locB (c : Ce) (x : Str) : Bool := match c.sc.names.lookup x with
  | some .local => true
  | some .cell => c.fn x
  | _ => false
def nmB (c : Ce) (i : Nat) (x : Str) : Bool := decide (c.N[i]? = some x) && locB c x
def chkNs (c : Ce) : List Nat → List Expr → Bool
  | [], [] => true
  | i :: is, .Name x _ :: es => nmB c i x && chkNs c is es
  | _, _ => false
def chkTg (c : Ce) : Tg → Expr → Bool
  | .nm i, .Name x _ => nmB c i x
  | .tp is, .Tuple es _ _ => chkNs c is es
  | _, _ => false
def isTup : Expr → Bool
  | .Tuple _ _ _ => true
  | _ => false
/-- neither a comprehension nor, with several targets, a display -/
def ncomp : Expr → Bool
  | .ListComp _ _ _ _ => false
  | .SetComp _ _ _ _ => false
  | .DictComp _ _ _ _ _ => false
  | _ => true
def ndisp : Expr → Bool
  | .Tuple _ _ _ => false
  | _ => true
def chkI (c : Ce) : Iter → Expr → Bool
  | .rng1 as, .Call (.Name x _) [e] [] _ => (decide (x = ("range" : Str)) && glB c.sc x) && chkL c as [e]
  | .rng2 as, .Call (.Name x _) [e1, e2] [] _ => (decide (x = ("range" : Str)) && glB c.sc x) && chkL c as [e1, e2]
  | .seqL a, e => nsetE e && chkE c a e
  | .enm a, .Call (.Name x _) [e] [] _ => (decide (x = ("enumerate" : Str)) && glB c.sc x) && (nst e && chkE c a e)
  | .zip a b, .Call (.Name x _) [e1, e2] [] _ => (decide (x = ("zip" : Str)) && glB c.sc x) && ((nst e1 && chkE c a e1) && (nst e2 && chkE c b e2))
  | _, _ => false
where nsetE : Expr → Bool
  | .Set _ _ _ => false
  | _ => true
def needTup : Iter → Bool
  | .enm _ => true
  | .zip _ _ => true
  | _ => false
def augB : P2 → Operator → Bool
  | .add, .Add => true
  | .sub, .Sub => true
  | .mul, .Mult => true
  | _, _ => false
mutual
def chkS (c : Ce) : S → Stmt → Bool
  | .asg t e, .Assign [tg] v _ => (ncomp v && (match t with
    | .nm _ => true
    | .tp _ => ndisp v)) && (chkTg c t tg && chkE c e v)
  | .sto1 s j e, .Assign [.Subscript (.Name x _) j' _] v _ => ncomp v && ((decide (c.N[s]? = some x) && visB c.sc x) && (nsl j' && (chkE c j j' && chkE c e v)))
  | .sto2 s j1 j2 e, .Assign [.Subscript (.Subscript (.Name x _) j1' _) j2' _] v _ => ncomp v && ((decide (c.N[s]? = some x) && visB c.sc x) && ((nsl j1' && nsl j2') && ((chkE c j1 j1' && chkE c j2 j2') && chkE c e v)))
  | .aug i p e, .AugAssign (.Name x _) o v _ => augB p o && (nmB c i x && chkE c e v)
  | .saug2 s j1 j2 p a, .AugAssign (.Subscript (.Subscript (.Name x _) j1' _) j2' _) o v _ => augB p o && ((decide (c.N[s]? = some x) && visB c.sc x) && ((nsl j1' && nsl j2') && ((chkE c j1 j1' && chkE c j2 j2') && chkE c a v)))
  | .app s e, .Expr (.Call (.Attribute (.Name x _) m ap) [v] [] cp) _ => (decide (m = ("append" : Str)) && (ap.endLine == cp.line)) && ((decide (c.N[s]? = some x) && visB c.sc x) && (nst v && chkE c e v))
  | .expr e, .Expr v _ => ncomp v && chkE c e v
  | .ret e, .Return (some v) _ => chkE c e v
  | .retN, .Return none _ => true
  | .brk, .Break _ => true
  | .cnt, .Continue _ => true
  | .pass, .Pass _ => true
  | .ite t a b, .If x y z _ => (tok t && chkE c t x) && (chkSs c a y && chkSs c b z)
  | .whl t b, .While x y [] _ => (tok t && chkE c t x) && chkSs c b y
  | .for_ t it b, .For tg i y [] _ => ((!needTup it || isTup tg) && chkTg c t tg) && (chkI c it i && chkSs c b y)
  | .raise C _ as, .Raise (some (.Call (.Name x _) es [] _)) none _ => (decide (x = C) && glB c.sc x) && (nempty es && chkL c as es)
  | .tryR cs fs bs b ks, .Try body (h :: hs) [] [] _ => decide (c.N.length ≤ 1000) && (chkSs c b body && chkCls c cs fs bs ks (h :: hs))
  | _, _ => false
def chkSs (c : Ce) : Ss → List Stmt → Bool
  | .nil, [] => true
  | .cons s r, x :: xs => chkS c s x && chkSs c r xs
  | _, _ => false
end
def OkI (X : Gv) (km : Nat) : Iter → Prop
  | .rng1 as => X.mg "range" = none ∧ OkL X km as
  | .rng2 as => X.mg "range" = none ∧ OkL X km as
  | .seqL a => OkE X km a
  | .enm a => X.mg "enumerate" = none ∧ OkE X km a
  | .zip a b => X.mg "zip" = none ∧ (OkE X km a ∧ OkE X km b)
mutual
def OkS (X : Gv) (km : Nat) : S → Prop
  | .asg _ e => OkE X km e
  | .sto1 _ j e => OkE X km j ∧ OkE X km e
  | .sto2 _ j1 j2 e => (OkE X km j1 ∧ OkE X km j2) ∧ OkE X km e
  | .aug _ _ e => OkE X km e
  | .saug2 _ j1 j2 _ a => (OkE X km j1 ∧ OkE X km j2) ∧ OkE X km a
  | .app _ e => OkE X km e
  | .expr e => OkE X km e
  | .ret e => OkE X km e
  | .ite t a b => OkE X km t ∧ (OkSs X km a ∧ OkSs X km b)
  | .whl t b => OkE X km t ∧ OkSs X km b
  | .for_ _ it b => OkI X km it ∧ OkSs X km b
  | .raise C ns as => ExcHas X C ns ∧ OkL X km as
  | .tryR cs fs bs b _ => XTab X cs fs bs ∧ OkSs X km b
  | _ => True
def OkSs (X : Gv) (km : Nat) : Ss → Prop
  | .nil => True
  | .cons s r => OkS X km s ∧ OkSs X km r
end
section
variable {X : Cx} {W : WX} {c : Ce} {km : Nat} {io : List Nat}
theorem Good.loc (g : Good X W c km) {i : Nat} {x : Str} (h : nmB c i x = true) : X.N[i]? = some x ∧ Loc X.env.scope x ∧ (X.fn x = true ∨ X.env.scope.names.lookup x = some .local) := by
  obtain ⟨h1, h2⟩ := ands h
  refine ⟨by rw [g.N]; exact of_decide_eq_true h1, ?_⟩
  unfold locB at h2
  rw [g.sc]
  unfold L2.Loc
  split at h2
  · rename_i q; exact ⟨.inl q, .inr q⟩
  · rename_i q; exact ⟨.inr q, .inl (g.fn x h2)⟩
  · cases h2
theorem pg_nm (g : Good X W c km) {i : Nat} {x : Str} {pos : Pos} (h : nmB c i x = true) : PG X (.Name x pos) (gName i) := by
  obtain ⟨h1, h2, h3⟩ := g.loc h
  exact pg_name g.fine.nd h1 h2 h3
theorem pgs_ns (g : Good X W c km) : ∀ {is : List Nat} {es : List Expr}, chkNs c is es = true → PGs X es (gNames is) ∧ (assignEach es X.env).length = is.length ∧ (assignEach es X.env).findIdx? (·.1) = none
  | [], [], _ => ⟨pgs_nil, rfl, rfl⟩
  | i :: is, .Name x p :: es, h => by
    obtain ⟨h1, h2⟩ := ands h
    obtain ⟨q1, q2, q3⟩ := pgs_ns g h2
    refine ⟨pgs_cons (pg_nm g h1) q1 rfl, ?_, ?_⟩
    · show (assignEach es X.env).length + 1 = _
      rw [q2]; rfl
    · show ((false, assign (.Name x p) X.env) :: assignEach es X.env).findIdx? (·.1) = none
      rw [List.findIdx?_cons]
      simp only [Bool.false_eq_true, if_false]
      rw [q3]; rfl
  | [], _ :: _, h => by simp [chkNs] at h
  | _ :: _, [], h => by simp [chkNs] at h
theorem pg_of (g : Good X W c km) {t : Tg} {tg : Expr} (h : chkTg c t tg = true) : ∃ gt, PG X tg gt ∧ SatG X io gt (tgA io t) := by
  cases t with
  | nm i =>
    cases tg <;> first | (cases h; done) | skip
    exact ⟨_, pg_nm g h, satG_nm⟩
  | tp is =>
    cases tg <;> first | (cases h; done) | skip
    rename_i es k pos
    obtain ⟨q1, q2, q3⟩ := pgs_ns g (show chkNs c is es = true from h)
    exact ⟨_, pg_tup g.fine.calm q1 q2 q3, satG_tp⟩
theorem sw_plain {v : Expr} (h : ncomp v = true) (t : Option Expr) (l : Nat) (env : Env) : swapsWith v t l env = pure false := by
  cases v <;> first | rfl | (cases h)
theorem sole_plain {v : Expr} (h : ncomp v = true) (tg : Expr) (l : Nat) (env : Env) : swapsWithSole [tg] v l env = pure false := sw_plain h _ l env
theorem stores_plain {tg v : Expr} (h : ndisp v = true) (env : Env) : swappedStores [tg] v env = pure none := by
  cases tg <;> cases v <;> first | rfl | (cases h)
theorem stores_nt {tg v : Expr} (h : (match tg with
    | .Tuple _ _ _ => false
    | .List _ _ => false
    | .Starred _ _ => false
    | _ => true) = true) (env : Env) : swappedStores [tg] v env = pure none := by
  cases tg <;> first | (cases h; done) | (cases v <;> rfl)
theorem ps_asgD {tg v : Expr} {te : TE} {gt : TG} {pos : Pos} (he : PE X v te) (hg : PG X tg gt) (hc : ncomp v = true) (hd : swappedStores [tg] v X.env = pure none) (hs : nst tg = true) : PS X (.Assign [tg] v pos) (tAsg te gt) :=
  ps_asg he hg (sole_plain hc tg _ _) hd (by cases tg <;> first | rfl | (cases hs))
/-! ### a raise -/
theorem satS_raise {Ca : Addr} {C : Str} {ns : List Str} {tes : List TE} {as : Es} (hC : X.mg C = some (.ref Ca)) (h : SatA X W tes (evA as)) :
    SatS X W io (fun _ σ H => runs tes σ H fun vs H1 => vs.length = ns.length ∧ ∀ d, H1 d = none → W (.ref Ca) (some d) σ (upd H1 d (.xd (ns.zip vs)))) (evS n io (.raise C ns as)) := by
  intro rs r e sg G H fp Dn hR hp
  simp only [evS] at e
  cases q : evA as rs with
  | none => rw [q] at e; cases e
  | some r1 =>
    rw [q] at e
    refine h rs r1 q sg G H [] [] fp _ hR (fun as' rs1 er vs va G' H' f' st r' ar => ?_) (fun x rs1 er => ?_)
    · subst er
      simp only [thenA] at e
      split at e
      case isFalse => cases e
      rename_i hs
      obtain ⟨h1, h2⟩ := ands hs
      cases e
      have vw := views r' ar
      have hl : vs.length = ns.length := by rw [← of_decide_eq_true h2]; exact (reps_len vw).symm
      refine ⟨hl, fun d hd => ?_⟩
      obtain ⟨f2, r2, st2⟩ := r'.dropN (by simp [ar.len.1])
      have ex : ∀ a o, H' a = some o → upd H' d (.xd (ns.zip vs)) a = some o := fun a o h => by rw [upd_ne (ne_of_none h hd)]; exact h
      have st3 : Step X.K G' H' f2 G' (upd H' d (.xd (ns.zip vs))) f2 := .ext ex
      have r3 := r2.mono st3.tups (fun a o _ h => ex a o h) fun a o h => ex a o (r2.sub a o h).1
      refine hp _ _ sg G' _ f2 ((st.trans st2).trans st3) (Kp.refl _ _) r3 ⟨Ca, d, ns.zip vs, rfl, hC, rfl, upd_same, ?_, ?_, h1⟩
      · rw [List.map_fst_zip (by omega)]
      · rw [List.map_snd_zip (by omega)]
        exact reps_fz' ex h1 vw
    · subst er
      cases e
      exact hp.xp
where reps_fz' {K : Fr} {mg : Str → Option Value} {H H' : Hp} {ds : List D} {vs : List V} (ex : ∀ a o, H a = some o → H' a = some o) (hs : isScs ds = true) (h : Vws K mg H ds vs) : Vws K mg H' ds vs :=
  reps_own ds (isOwns_of_sc hs) (reps_mono (fun _ _ h => h) (fun a vs h => sqT_ex h ex) ds (fun _ _ z => z.elim) h)
end
end Pv

set_option maxHeartbeats 2000000
namespace Pv
open PySem PySem.Spec PyProof.Rows L2
section
variable {X : Cx} {W : WX} {c : Ce} {km : Nat} {io : List Nat}
/-- a def's body runs here -/
structure GoodS (X : Cx) (W : WX) (c : Ce) (km : Nat) : Prop extends Good X W c km where
  ow : PassesOwn (model X.prog X.w) X.A X.env X.xe
  stk : X.stack = X.env :: X.outer
  fr : X.env.frame = some X.env.locals
  pos : 1 ≤ km
/-- .. and within a try -/
theorem GoodS.tr (g : GoodS X W c km) {V : WX} {pn : List (Addr × Obj)} {xe : Value → Shared → Prop} (tk : Takes (X.tr pn xe) V) (ow : PassesOwn (model X.prog X.w) X.A X.env xe) : GoodS (X.tr pn xe) V c km :=
  { fine := ⟨g.fine.calm, g.fine.nd, g.fine.seer, g.fine.tree, g.fine.head, g.fine.depth, g.fine.units⟩
    tk := tk
    room := g.room
    N := g.N
    sc := g.sc
    fn := g.fn
    ow := ow
    stk := g.stk
    fr := g.fr
    pos := g.pos }
theorem SatS.congr {t : TS} {ev ev' : List D → Option Fl} (h : SatS X W io t ev) (e : ∀ rs, ev' rs = ev rs) : SatS X W io t ev' :=
  fun rs r q => h rs r (by rw [← e]; exact q)
theorem aug_of {p : P2} {o : Operator} (h : augB p o = true) : opI p = inplaceOp o ∧ augOk p = true := by
  cases p <;> cases o <;> first | (cases h; done) | exact ⟨rfl, rfl⟩
/-- an item of a list, by values -/
theorem get_list : PGet X (fun o i H Q => rIxL X.K o i H Q) := by
  intro pins s σ H o i ov iv Q I rx ry h
  obtain ⟨p, xs, k, z, rfl, rfl, hq, he, q⟩ := h
  cases rx
  obtain ⟨t, rfl⟩ := ry
  obtain ⟨its, r, pl, hz⟩ := I.list hq
  obtain ⟨j, h1, h2, h3, h4, h5⟩ := atI_get he
  obtain ⟨w, ew, rw'⟩ := r.get h2
  have hl := r.length
  have hn := line63
  have done : EP X pins σ Q w s := ⟨z, H, I, rw', q⟩
  by_cases h0 : 0 ≤ k
  · have hj : k.toNat = j := by
      rw [seqIndex_of h0 h5] at h1
      exact Option.some.inj h1
    exact wpAny_getItem_list pl.isList h0 (by omega) (by rw [hj]; simpa using ew) done
  · have hj : (k + (its.toArray.size : Int)).toNat = j := by
      rw [seqIndex_neg (by omega) h4] at h1
      rw [List.size_toArray, ← hl]
      exact Option.some.inj h1
    exact wpAny_getItem_list_neg pl.isList (by omega) (by rw [List.size_toArray] <;> omega) (by omega) (by rw [hj]; simpa using ew) done
/-- what a for walks -/
theorem all_iter (g : GoodS X W c km) {it : Iter} {tg i : Expr} (hc : chkI c it i = true) (ho : OkI (gvOf X) km it) (ht : needTup it = true → isTup tg = true) : ∃ wi, PI X tg i wi ∧ SatI X W wi (evI it) ∧ ∀ x, foldedSetIterable i X.env x = pure x := by
  cases it with
  | rng1 as =>
    cases i <;> first | (cases hc; done) | skip
    rename_i f es kws pos
    cases f <;> first | (cases hc; done) | skip
    rename_i x p
    match es, kws, hc with
    | [e], [], hc =>
      obtain ⟨h1, h2⟩ := ands hc
      obtain ⟨h1, h3⟩ := ands h1
      have hx : x = "range" := of_decide_eq_true h1
      subst hx
      have L := allL as g.toGood [e] h2 ho.2
      obtain ⟨tes, ps, sa⟩ := L.exA
      exact ⟨_, pi_range1 (g.gl h3).1 ho.1 (pa_of ps L.nst) (star_nst (L.nst e List.mem_cons_self) [] X.env), satI_rng1 sa, fun _ => rfl⟩
  | rng2 as =>
    cases i <;> first | (cases hc; done) | skip
    rename_i f es kws pos
    cases f <;> first | (cases hc; done) | skip
    rename_i x p
    match es, kws, hc with
    | [e1, e2], [], hc =>
      obtain ⟨h1, h2⟩ := ands hc
      obtain ⟨h1, h3⟩ := ands h1
      have hx : x = "range" := of_decide_eq_true h1
      subst hx
      have L := allL as g.toGood [e1, e2] h2 ho.2
      obtain ⟨tes, ps, sa⟩ := L.exA
      have n1 := L.nst e1 List.mem_cons_self
      have n2 := L.nst e2 (List.mem_cons_of_mem _ List.mem_cons_self)
      have s2 : starEach [e2] X.env = [(false, eval e2 X.env)] := star_nst n2 [] X.env
      exact ⟨_, pi_range2 (g.gl h3).1 ho.1 (pa_of ps L.nst) (by rw [star_nst n1, s2]) s2, satI_rng2 sa, fun _ => rfl⟩
  | seqL a =>
    obtain ⟨h1, h2⟩ := ands (show (chkI.nsetE i && chkE c a i) = true by cases i <;> exact hc)
    obtain ⟨t, p, s, _⟩ := (allE a g.toGood i h2 ho).se.ex
    exact ⟨_, pi_list p, satI_seqL (s false), fun _ => by cases i <;> first | rfl | cases h1⟩
  | enm a =>
    cases i <;> first | (cases hc; done) | skip
    rename_i f es kws pos
    cases f <;> first | (cases hc; done) | skip
    rename_i x p
    match es, kws, hc with
    | [e], [], hc =>
      obtain ⟨h1, h2⟩ := ands hc
      obtain ⟨h1, h3⟩ := ands h1
      obtain ⟨h2, h4⟩ := ands h2
      have hx : x = "enumerate" := of_decide_eq_true h1
      subst hx
      obtain ⟨t, pe, s, _⟩ := (allE a g.toGood e h4 ho.2).se.ex
      have hT := ht rfl
      cases tg <;> first | (cases hT; done) | skip
      have hs : ∀ x ∈ [e], nst x = true := fun x hx => by
        simp only [List.mem_cons, List.not_mem_nil, or_false] at hx
        subst hx; exact h2
      exact ⟨_, pi_enum (g.gl h3).1 ho.1 (pa_of (.one pe) hs) (star_nst h2 [] X.env), satI_enm (s false), fun _ => rfl⟩
  | zip a b =>
    cases i <;> first | (cases hc; done) | skip
    rename_i f es kws pos
    cases f <;> first | (cases hc; done) | skip
    rename_i x p
    match es, kws, hc with
    | [e1, e2], [], hc =>
      obtain ⟨h1, h2⟩ := ands hc
      obtain ⟨h1, h3⟩ := ands h1
      obtain ⟨h2, h4⟩ := ands h2
      obtain ⟨n1, h2⟩ := ands h2
      obtain ⟨n2, h4⟩ := ands h4
      have hx : x = "zip" := of_decide_eq_true h1
      subst hx
      obtain ⟨t, pe, s, _⟩ := (allE a g.toGood e1 h2 ho.2.1).se.ex
      obtain ⟨t2, pe2, s2, _⟩ := (allE b g.toGood e2 h4 ho.2.2).se.ex
      have hT := ht rfl
      cases tg <;> first | (cases hT; done) | skip
      have hs : ∀ x ∈ [e1, e2], nst x = true := fun x hx => by
        simp only [List.mem_cons, List.not_mem_nil, or_false] at hx
        rcases hx with rfl | rfl
        · exact n1
        · exact n2
      exact ⟨_, pi_zip (g.gl h3).1 ho.1 (pa_of (.cons pe (.one pe2)) hs) (star_nst n1 _ X.env) (back_nst (fun x hx => hs x (List.mem_cons_of_mem _ hx)) _ _), satI_zip (s false) (s2 false), fun _ => rfl⟩
mutual
/-- THE STATEMENTS -/
theorem allS (n : Nat) (io : List Nat) : ∀ (m : S) {X : Cx} {W : WX} {c : Ce} {km : Nat} (g : GoodS X W c km) (s : Stmt), chkS c m s = true → OkS (gvOf X) km m → ∃ t, PS X s t ∧ SatS X W io t (evS n io m)
  | .asg t e, X, W, c, km, g, s, hc, ho => by
    cases s <;> first | (cases hc; done) | skip
    rename_i tgs v pos
    match tgs, hc with
    | [tg], hc =>
      obtain ⟨h1, h2⟩ := ands hc
      obtain ⟨h1, h3⟩ := ands h1
      obtain ⟨h2, h4⟩ := ands h2
      obtain ⟨te, pe, se, _⟩ := (allE e g.toGood v h4 ho).se.ex
      obtain ⟨gt, pg, sg⟩ := pg_of (io := io) g.toGood h2
      refine ⟨_, ps_asgD pe pg h1 ?_ ?_, (satS_asg (se false) sg).congr fun rs => by simp only [evS]⟩
      · cases t with
        | nm i =>
          cases tg <;> first | (cases h2; done) | skip
          exact stores_nt rfl _
        | tp is => exact stores_plain h3 _
      · cases t <;> cases tg <;> first | rfl | (cases h2)
  | .sto1 sl j e, X, W, c, km, g, s, hc, ho => by
    cases s <;> first | (cases hc; done) | skip
    rename_i tgs v pos
    match tgs, hc with
    | [.Subscript (.Name x p1) j' p2], hc =>
      obtain ⟨h1, h2⟩ := ands hc
      obtain ⟨h2, h3⟩ := ands h2
      obtain ⟨h3, h4⟩ := ands h3
      obtain ⟨h4, h5⟩ := ands h4
      obtain ⟨te, pe, se, _⟩ := (allE e g.toGood v h5 ho.2).se.ex
      obtain ⟨tj, pj, sj⟩ := (allE j g.toGood j' h4 ho.1).sp.ex
      refine ⟨_, ps_asgD pe (pg_sub (g.pv h2) pj set_list (fun v => ?_)) h1 (stores_nt rfl _) rfl, (satS_asg (se false) (satG_sto1 sj)).congr fun rs => by simp only [evS]⟩
      cases j' <;> first | rfl | (cases h3)
  | .sto2 sl j1 j2 e, X, W, c, km, g, s, hc, ho => by
    cases s <;> first | (cases hc; done) | skip
    rename_i tgs v pos
    match tgs, hc with
    | [.Subscript (.Subscript (.Name x p1) j1' p2) j2' p3], hc =>
      obtain ⟨h1, h2⟩ := ands hc
      obtain ⟨h2, h3⟩ := ands h2
      obtain ⟨h3, h4⟩ := ands h3
      obtain ⟨h3, h3'⟩ := ands h3
      obtain ⟨h4, h5⟩ := ands h4
      obtain ⟨h4, h4'⟩ := ands h4
      obtain ⟨te, pe, se, _⟩ := (allE e g.toGood v h5 ho.2).se.ex
      obtain ⟨t1, p1', s1⟩ := (allE j1 g.toGood j1' h4 ho.1.1).sp.ex
      obtain ⟨t2, p2', s2⟩ := (allE j2 g.toGood j2' h4' ho.1.2).sp.ex
      refine ⟨_, ps_asgD pe (pg_sub (pe_ix ix_seq (g.pv h2) p1' (plain_nsl h3)) p2' set_list (fun v => ?_)) h1 (stores_nt rfl _) rfl, (satS_asg (se false) (satG_sto2 s1 s2)).congr fun rs => by simp only [evS]⟩
      cases j2' <;> first | rfl | (cases h3')
  | .aug i p e, X, W, c, km, g, s, hc, ho => by
    cases s <;> first | (cases hc; done) | skip
    rename_i tg o v pos
    cases tg <;> first | (cases hc; done) | skip
    rename_i x p1
    obtain ⟨h1, h2⟩ := ands hc
    obtain ⟨h2, h3⟩ := ands h2
    obtain ⟨te, pe, se, _⟩ := (allE e g.toGood v h3 ho).se.ex
    obtain ⟨a1, a2, a3⟩ := g.loc h2
    obtain ⟨b1, b2⟩ := aug_of h1
    have hop : OpR X (inplaceOp o) (rAug p) := by rw [← b1]; exact doesAug b2
    exact ⟨_, ps_aug g.fine.nd a1 a2 pe hop a3, (satS_aug (se false)).congr fun rs => by simp only [evS]⟩
  | .saug2 sl j1 j2 p a, X, W, c, km, g, s, hc, ho => by
    cases s <;> first | (cases hc; done) | skip
    rename_i tg o v pos
    match tg, hc with
    | .Subscript (.Subscript (.Name x p1) j1' p2) j2' p3, hc =>
      obtain ⟨h1, h2⟩ := ands hc
      obtain ⟨h2, h3⟩ := ands h2
      obtain ⟨h3, h4⟩ := ands h3
      obtain ⟨h3, h3'⟩ := ands h3
      obtain ⟨h4, h5⟩ := ands h4
      obtain ⟨h4, h4'⟩ := ands h4
      obtain ⟨te, pe, se⟩ := (allE a g.toGood v h5 ho.2).sp.ex
      obtain ⟨t1, p1', s1⟩ := (allE j1 g.toGood j1' h4 ho.1.1).sp.ex
      obtain ⟨t2, p2', s2⟩ := (allE j2 g.toGood j2' h4' ho.1.2).sp.ex
      obtain ⟨b1, b2⟩ := aug_of h1
      have hop : OpR X (inplaceOp o) (rAug p) := by rw [← b1]; exact doesAug b2
      exact ⟨_, ps_augS (pe_ix ix_seq (g.pv h2) p1' (plain_nsl h3)) p2' get_list pe hop set_list (fun _ _ _ => by cases j2' <;> first | rfl | (cases h3')), (satS_saug2 s1 s2 se).congr fun rs => by simp only [evS]⟩
  | .app sl e, X, W, c, km, g, s, hc, ho => by
    cases s <;> first | (cases hc; done) | skip
    rename_i ex pos
    match ex, hc with
    | .Call (.Attribute (.Name x p1) m ap) [v] [] cp, hc =>
      obtain ⟨h1, h2⟩ := ands hc
      obtain ⟨h1, h3⟩ := ands h1
      obtain ⟨h2, h4⟩ := ands h2
      obtain ⟨h4, h5⟩ := ands h4
      have hm : m = "append" := of_decide_eq_true h1
      subst hm
      obtain ⟨te, pe, se, _⟩ := (allE e g.toGood v h5 ho).se.ex
      have hs : ∀ x ∈ [v], nst x = true := fun x hx => by
        simp only [List.mem_cons, List.not_mem_nil, or_false] at hx
        subst hx; exact h4
      have st := star_nst h4 [] X.env
      refine ⟨_, ps_expr (pe_bm PySem.F.plainAttrs_list PySem.F.slot_list_append PySem.F.type_list_append mt_append (g.pv h2) (pa_of (.one pe) hs) rfl ?_ h3 st (back_nst (fun e he => hs e (List.mem_cons_of_mem _ he)) _ _)) rfl, (satS_app (se false)).congr fun rs => by simp only [evS]⟩
      rw [st]; rfl
  | .expr e, X, W, c, km, g, s, hc, ho => by
    cases s <;> first | (cases hc; done) | skip
    · rename_i v pos
      obtain ⟨h1, h2⟩ := ands (show (ncomp v && chkE c e v) = true from by cases v <;> first | exact hc | (revert hc; simp only [chkS]; exact id))
      obtain ⟨te, pe, se, _⟩ := (allE e g.toGood v h2 ho).se.ex
      exact ⟨_, ps_expr pe (sw_plain h1 _ _ _), (satS_expr (se false)).congr fun rs => by simp only [evS]⟩
  | .ret e, X, W, c, km, g, s, hc, ho => by
    cases s <;> first | (cases hc; done) | skip
    rename_i v pos
    cases v with
    | none => cases hc
    | some v =>
      obtain ⟨te, pe, se, _⟩ := (allE e g.toGood v hc ho).se.ex
      exact ⟨_, ps_ret pe, (satS_ret (se true)).congr fun rs => by simp only [evS]⟩
  | .retN, X, W, c, km, g, s, hc, ho => by
    cases s <;> first | (cases hc; done) | skip
    rename_i v pos
    cases v with
    | some v => cases hc
    | none => exact ⟨_, ps_retN, satS_retN.congr fun rs => by simp only [evS]⟩
  | .brk, X, W, c, km, g, s, hc, ho => by
    cases s <;> first | (cases hc; done) | skip
    exact ⟨_, ps_break, satS_bk.congr fun rs => by simp only [evS]⟩
  | .cnt, X, W, c, km, g, s, hc, ho => by
    cases s <;> first | (cases hc; done) | skip
    exact ⟨_, ps_continue, satS_ct.congr fun rs => by simp only [evS]⟩
  | .pass, X, W, c, km, g, s, hc, ho => by
    cases s <;> first | (cases hc; done) | skip
    exact ⟨_, ps_pass, satS_nil.congr fun rs => by simp only [evS]⟩
  | .ite t a b, X, W, c, km, g, s, hc, ho => by
    cases s <;> first | (cases hc; done) | skip
    rename_i x y z pos
    obtain ⟨h1, h2⟩ := ands hc
    obtain ⟨h1, h3⟩ := ands h1
    obtain ⟨h2, h4⟩ := ands h2
    obtain ⟨tt, pt, st⟩ := ((allE t g.toGood x h3 ho.1).st h1).ex
    obtain ⟨ta, pa, sa⟩ := allSs n io a g y h2 ho.2.1
    obtain ⟨tb, pb, sb⟩ := allSs n io b g z h4 ho.2.2
    exact ⟨_, ps_if pt pa pb, (satS_if st sa sb).congr fun rs => by simp only [evS]⟩
  | .whl t b, X, W, c, km, g, s, hc, ho => by
    cases s <;> first | (cases hc; done) | skip
    rename_i x y z pos
    cases z with
    | cons _ _ => cases hc
    | nil =>
      obtain ⟨h1, h2⟩ := ands hc
      obtain ⟨h1, h3⟩ := ands h1
      obtain ⟨tt, pt, st⟩ := ((allE t g.toGood x h3 ho.1).st h1).ex
      obtain ⟨tb, pb, sb⟩ := allSs n io b g y h2 ho.2
      exact ⟨_, ps_while g.ow pt pb, (satS_whl st sb n).congr fun rs => by simp only [evS]⟩
  | .for_ t it b, X, W, c, km, g, s, hc, ho => by
    cases s <;> first | (cases hc; done) | skip
    rename_i tg i y z pos
    cases z with
    | cons _ _ => cases hc
    | nil =>
      obtain ⟨h1, h2⟩ := ands hc
      obtain ⟨h1, h3⟩ := ands h1
      obtain ⟨h2, h4⟩ := ands h2
      obtain ⟨wi, pi, si, hf⟩ := all_iter g (tg := tg) h2 ho.1 (fun q => by rw [q] at h1; simpa using h1)
      obtain ⟨gt, pg, sg⟩ := pg_of (io := io) g.toGood h3
      obtain ⟨tb, pb, sb⟩ := allSs n io b g y h4 ho.2
      exact ⟨_, ps_for g.ow g.fine.calm pi pg pb hf, (satS_for si sg sb).congr fun rs => by simp only [evS]⟩
  | .raise C ns as, X, W, c, km, g, s, hc, ho => by
    cases s <;> first | (cases hc; done) | skip
    rename_i x z pos
    match x, z, hc with
    | some (.Call (.Name x p) es [] p2), none, hc =>
      obtain ⟨h1, h2⟩ := ands hc
      obtain ⟨h1, h3⟩ := ands h1
      obtain ⟨h2, h4⟩ := ands h2
      have hx : x = C := of_decide_eq_true h1
      subst hx
      have L := allL as g.toGood es h4 ho.2
      obtain ⟨tes, ps, sa⟩ := L.exA
      obtain ⟨Ca, fI, T, hdb⟩ := ho.1.ex
      cases es with
      | nil => cases h2
      | cons e es => exact ⟨_, ps_raise g.fine.calm g.tk (mk_exc T (g.room.mono g.pos) hdb (g.gl h3).1 ps L.nst), satS_raise T.gC sa⟩
  | .tryR cs fs bs b ks, X, W, c, km, g, s, hc, ho => by
    cases s <;> first | (cases hc; done) | skip
    rename_i body hds orelse fin pos
    match hds, orelse, fin, hc with
    | h :: hs, [], [], hc =>
      obtain ⟨h1, h2⟩ := ands hc
      obtain ⟨h2, h3⟩ := ands h2
      have hl : c.N.length ≤ 1000 := of_decide_eq_true h1
      have T : XTab (gvOf X) cs fs bs := ho.1
      refine ⟨_, ps_tryG (tb := fun V => tEv X V io (evSs n io b)) g.stk g.fr g.fine.nd g.tk (fun V pn xe tk ow => ?_) (hg_of g.toGood T h3), (satS_try T hl h3 (evSs n io b)).congr fun rs => by simp only [evS]⟩
      obtain ⟨t, p, st⟩ := allSs n io b (g.tr tk ow) body h2 ho.2
      exact pss_ev (X := X.tr pn xe) p st
theorem allSs (n : Nat) (io : List Nat) : ∀ (m : Ss) {X : Cx} {W : WX} {c : Ce} {km : Nat} (g : GoodS X W c km) (s : List Stmt), chkSs c m s = true → OkSs (gvOf X) km m → ∃ t, PSs X s t ∧ SatS X W io t (evSs n io m)
  | .nil, X, W, c, km, g, s, hc, ho => by
    cases s with
    | cons _ _ => cases hc
    | nil => exact ⟨_, pss_nil, satS_nil.congr fun rs => by simp only [evSs]⟩
  | .cons a r, X, W, c, km, g, s, hc, ho => by
    cases s with
    | nil => cases hc
    | cons x xs =>
      obtain ⟨h1, h2⟩ := ands hc
      obtain ⟨t, p, st⟩ := allS n io a g x h1 ho.1
      obtain ⟨u, q, su⟩ := allSs n io r g xs h2 ho.2
      exact ⟨_, pss_cons p q, (satS_seq st su).congr fun rs => by simp only [evSs]⟩
end
end
end Pv

set_option maxHeartbeats 2000000
namespace Pv
open PySem PySem.Spec PyProof.Rows L2
/-! ### a def -/
def ioPos : Nat → List Bool → List Nat
  | _, [] => []
  | k, true :: io => k :: ioPos (k + 1) io
  | k, false :: io => ioPos (k + 1) io
def outsOf (rs : List D) (ss : List Nat) : List D := ss.map fun s => rs.getD s .un
def outFl (io : List Bool) : Fl → Option Out
  | .ret d rs => some (.ret d (outsOf rs (ioPos 0 io)))
  | .nx rs => some (.ret .non (outsOf rs (ioPos 0 io)))
  | .exc x _ => some (.exc x)
  | _ => none
/-- what the body of a def gives: n turns at most of a while, L names -/
def evFn (n : Nat) (io : List Bool) (L : Nat) (b : Ss) (ds : List D) : Option Out := ob (evSs n (ioPos 0 io) b (ds ++ List.replicate (L - ds.length) .un)) (outFl io)
section
variable {K : Fr} {mg : Str → Option Value} {G G' H H' : Hp} {fp : FP} {ts : List D} {tv : List V} {rs : List D} {sg : L2.St}
theorem R.dropSlots (r : R K mg G H ts tv rs sg fp) : ∃ fp', R K mg G H ts tv [] [] fp' ∧ Step K G H fp G H fp' := by
  obtain ⟨⟨ft, fs, h1, h2, h3, h4⟩, sub⟩ := r
  exact ⟨ft, ⟨⟨ft, fun _ => False, h1, fun _ z => z, fun _ _ z => z, fun a => by simp⟩, fun a o e => ⟨(sub a o e).1, fun z => (sub a o e).2 ((h4 a).2 (.inl z))⟩⟩, .less fun a z => (h4 a).2 (.inl z)⟩
theorem ioPos_ge : ∀ {io : List Bool} {k s : Nat}, s ∈ ioPos k io → k ≤ s
  | true :: io, k, s, h => by
    simp only [ioPos, List.mem_cons] at h
    rcases h with rfl | h
    · exact Nat.le_refl _
    · exact Nat.le_of_succ_le (ioPos_ge h)
  | false :: io, k, s, h => Nat.le_of_succ_le (ioPos_ge (k := k + 1) h)
  | [], _, _, h => by simp [ioPos] at h
theorem ioPos_nd : ∀ (io : List Bool) (k : Nat), (ioPos k io).Nodup
  | [], _ => List.nodup_nil
  | true :: io, k => List.nodup_cons.mpr ⟨fun z => absurd (ioPos_ge z) (by omega), ioPos_nd io (k + 1)⟩
  | false :: io, k => ioPos_nd io (k + 1)
theorem SV.keep {sg sg' : L2.St} : ∀ {ss : List Nat} {vs : List V}, SV sg ss vs → Kp ss sg sg' → SV sg' ss vs
  | [], [], _, _ => trivial
  | s :: ss, v :: vs, h, k => ⟨(k s List.mem_cons_self).trans h.1, h.2.keep fun t ht => k t (List.mem_cons_of_mem _ ht)⟩
  | [], _ :: _, h, _ => h.elim
  | _ :: _, [], h, _ => h.elim
theorem sv_start : ∀ {io : List Bool} {vs : List V} {k : Nat} {sg : L2.St}, vs.length = io.length → (∀ i v, vs[i]? = some v → sg[k + i]? = some (some v)) → SV sg (ioPos k io) (ioV io vs)
  | [], [], _, _, _, _ => trivial
  | true :: io, v :: vs, k, sg, hl, h => ⟨by simpa using h 0 v rfl, sv_start (by simpa using hl) fun i w e => by
      have := h (i + 1) w (by simpa using e)
      rw [show k + 1 + i = k + (i + 1) by omega]; exact this⟩
  | false :: io, v :: vs, k, sg, hl, h => by
    show SV sg (ioPos (k + 1) io) (ioV io vs)
    exact sv_start (by simpa using hl) fun i w e => by
      have := h (i + 1) w (by simpa using e)
      rw [show k + 1 + i = k + (i + 1) by omega]; exact this
  | [], _ :: _, _, _, hl, _ => by simp at hl
  | _ :: _, [], _, _, hl, _ => by simp at hl
theorem repsO_start : ∀ {ds : List D} {vs : List V} {fp : FP} (n : Nat), Reps K mg G H ds vs fp → RepsO K mg G H (ds ++ List.replicate n .un) (vs.map some ++ List.replicate n none) fp
  | [], [], fp, 0, h => by
    simp only [Reps] at h
    exact h
  | [], [], fp, n + 1, h => by
    have ih := repsO_start (fp := fun _ => False) n (show Reps K mg G H [] [] (fun _ => False) by simp [Reps])
    simp only [Reps] at h
    exact ⟨fun _ => False, fun _ => False, ⟨rfl, fun _ z => z⟩, ih, fun _ z => z.elim, fun a => by simp [h a]⟩
  | d :: ds, v :: vs, fp, n, h => by
    simp only [Reps] at h
    obtain ⟨f1, f2, h1, h2, h3, h4⟩ := h
    exact ⟨f1, f2, h1, repsO_start n h2, h3, h4⟩
  | [], _ :: _, _, _, h => by simp only [Reps] at h
  | _ :: _, [], _, _, h => by simp only [Reps] at h
/-- at a def's end: the answer, the changed ones -/
theorem R.exit {d : D} {v : V} {ss : List Nat} {iv : List V} (r : R K mg G H [d] [v] rs sg fp) (nd : ss.Nodup) (sv : SV sg ss iv) : ∃ fp', R K mg G H (d :: outsOf rs ss) (v :: iv) [] [] fp' ∧ Step K G H fp G H fp' := by
  obtain ⟨f1, f2, h1, r2, dj, e⟩ := r.top
  obtain ⟨f3, r3, st3⟩ := (takeIO r2 nd sv).dropSlots
  have le3 : ∀ a, f3 a → f2 a := fun a z => by
    rcases st3.new a z with q | q
    · rcases r3.there a z with ⟨_, w⟩ | ⟨_, _, _, w⟩ <;> (rw [q] at w; cases w)
    · exact q
  have r4 := r3.push h1 (fun a ha hb => dj a ha (le3 a hb)) fun a o hg z => (r.sub a o hg).2 ((e a).2 (.inl z))
  refine ⟨_, by simpa [outsOf] using r4, .less fun a z => ?_⟩
  rcases z with z | z
  · exact (e a).2 (.inl z)
  · exact (e a).2 (.inr (le3 a z))
end
/-- A DEF KEEPS ITS PROMISE -/
theorem fn_ok {P : Program} {w : World} {K : Fr} {mg : Str → Option Value} {base : Heap} {x qual : Str} {params : Arguments} {body : List Stmt} {scope : Scope} {f : Addr} {fd : FuncData} {N ps : List Str} {km : Nat} {io : List Bool} {m : List D → Option Out} {b : Ss}
    (F : FunD K x qual params body scope [] [] f fd) (S : FnScope N ps scope) (hl : io.length = ps.length) (hkm : 32 ≤ km) (seer : base.NoSeer) (tree : P.given.tree = none)
    (hc : chkSs ⟨N, scope, fun _ => true⟩ b body = true)
    (ho : OkSs ⟨P, w, K, mg, base⟩ km b)
    (hm : ∀ ds o, m ds = some o → ∃ n, evFn n io N.length b ds = some o) : FnOk P w K mg base (L2.CX P w) (km + 1) f fd ps (spOf K mg ⟨io, m⟩) := by
  refine F.ok S (fun vs H Q E h => h.1.trans hl) fun cdv A outer s H vs Q E hr h => ?_
  obtain ⟨hvl, G, fp, ds, o, hreps, hsub, em, hcont⟩ := h
  obtain ⟨n, en⟩ := hm ds o em
  have g : GoodS (cxOf (L2.CX P w) P w K mg base N qual scope f cdv A outer s H E) (fun cls d _ H => E cls d H) ⟨N, scope, fun _ => true⟩ km :=
    { fine := ⟨rfl, S.nd, seer, tree, ⟨_, _, rfl, S.gen, S.co, rfl, rfl⟩, by
          have h1 := hr.dp
          show (A.deeper (envOfC qual scope s.heap.objs.size f cdv)).depth + 100 < recursionLimit
          omega, Nat.lt_of_le_of_lt (Nat.le_refl _) hr.units⟩
      tk := takes_of rfl rfl rfl rfl
      room := hr
      N := rfl
      sc := rfl
      fn := fun _ _ => rfl
      ow := passes_of rfl
      stk := rfl
      fr := rfl
      pos := by omega }
  obtain ⟨t, pt, st⟩ := allSs n (ioPos 0 io) b g body hc ho
  refine ⟨t, pt, ?_⟩
  unfold evFn at en
  obtain ⟨r, er, en⟩ := ob_some en
  have hdl : ds.length = vs.length := reps_len hreps
  have hps : ps.length ≤ N.length := by
    have e := congrArg List.length S.pre
    rw [List.length_take] at e
    omega
  have hR : R K mg G H [] [] (ds ++ List.replicate (N.length - ds.length) .un) (L2.start N vs) fp := by
    refine ⟨⟨fun _ => False, fp, by simp [Reps], ?_, fun _ z => z.elim, fun a => by simp⟩, hsub⟩
    unfold L2.start
    rw [hdl]
    exact repsO_start _ hreps
  have sv0 : SV (L2.start N vs) (ioPos 0 io) (ioV io vs) := sv_start hvl fun i v e => by
    unfold L2.start
    rw [Nat.zero_add, List.getElem?_append_left (by rw [List.length_map]; exact (List.getElem?_eq_some_iff.mp e).1), List.getElem?_map, e]
    rfl
  refine st _ r er (L2.start N vs) G H fp _ hR ?_
  cases r with
  | nx rs =>
    cases en
    intro sg' G' H' fp' stp kp r'
    obtain ⟨f2, r2, st2⟩ := (r'.pushE (d := .non) rep_non).exit (ioPos_nd io 0) (sv0.keep kp)
    exact hcont .non H' G' f2 (stp.trans st2) r2
  | ret d rs =>
    cases en
    intro v sg' G' H' fp' stp kp r'
    obtain ⟨f2, r2, st2⟩ := r'.exit (ioPos_nd io 0) (sv0.keep kp)
    exact hcont v H' G' f2 (stp.trans st2) r2
  | bk rs => cases en
  | ct rs => cases en
  | exc x rs =>
    cases en
    intro cls da sg' G' H' fp' stp kp r' xr
    obtain ⟨f2, r2, st2⟩ := r'.dropSlots
    exact hcont cls da H' G' f2 (stp.trans st2) r2 xr
end Pv

set_option maxHeartbeats 2000000
namespace Pv
open PySem PySem.Spec PyProof.Rows L2
/-! ### the hook: any look at the written part -/
def asP (g : Addr → Option Obj) (n : Nat) : List Addr := (He.asD g n ++ [cStatics, sysModules, builtinsNs]).eraseDups
def obsP (n : Nat) (fn : List He.DefD) (p : Fr → Bool) (g : Addr → Option Obj) : He.AlD := (p (He.frG g (asP g n)) && fn.all fun d => d.ok (He.frG g (asP g n)), fn.map fun d => He.fnW (He.frG g (asP g n)) d.at_)
structure SaysP (fn : List He.DefD) (p : Fr → Bool) (K : Fr) : Prop where
  p : p K = true
  ok : (fn.all fun d => d.ok K) = true
  fn : (fn.map fun d => He.fnW K d.at_) = fn.map He.DefD.val
def hookP (n : Nat) (fn : List He.DefD) (p : Fr → Bool) : PySem.W.Hook where
  α := He.AlD
  obs := fun s => obsP n fn p s.heap.get?
  val := fun _ => He.valD fn
  says := fun _ h => ∃ K : Fr, K.In h ∧ SaysP fn p K
  of := fun _ s e => ⟨_, He.frG_in, by
    have e1 := congrArg (fun z : He.AlD => z.1) e
    have e2 := congrArg (fun z : He.AlD => z.2) e
    have b := Bool.and_eq_true_iff.mp e1
    exact ⟨b.1, b.2, e2⟩⟩
  keeps := fun _ _ _ ⟨K, hK, c⟩ k => ⟨K, PySem.W.Frag.In.keeps hK k, c⟩
theorem obsP_eq {n : Nat} {fn : List He.DefD} {p : Fr → Bool} {g : Addr → Option Obj} {s : Shared} (h : ∀ a, g a = s.heap.get? a) : obsP n fn p g = (hookP n fn p).obs s := by
  have e : g = s.heap.get? := funext h
  rw [e] <;> rfl
theorem SaysP.def_ {fn : List He.DefD} {p : Fr → Bool} {K : Fr} (c : SaysP fn p K) {d : He.DefD} (n : Nat) (e : fn[n]? = some d) : ∃ fd, FunD K d.name d.qual d.params d.body d.scope (d.dvs K) (d.kws K) (He.fAd K d.at_) fd := by
  have h1 := List.all_eq_true.mp c.ok d (List.mem_of_getElem? e)
  have h2 : (fn.map fun d => He.fnW K d.at_)[n]? = (fn.map He.DefD.val)[n]? := by rw [c.fn]
  rw [List.getElem?_map, List.getElem?_map, e] at h2
  exact He.DefD.funD (Option.some.inj h2) h1
/-! ### looks -/
def gloB (K : Fr) (x : Str) : Bool := He.eqO (PySem.W.nsIn K mainGlobals x) (some (some (.ref (He.ga K x))))
def freeB (K : Fr) (x : Str) : Bool := He.eqO (PySem.W.nsIn K mainGlobals x) (some none)
def seerB (K : Fr) : Bool := (PySem.W.nsOkIn K cStatics && (He.eqO (PySem.W.nsIn K cStatics "sys.audit-hooks") (some none) && He.eqO (PySem.W.nsIn K cStatics "sys.dict") (some none))) &&
  ((PySem.W.nsOkIn K sysModules && He.eqO (PySem.W.nsIn K sysModules "_pylong") (some none)) && ((K.lookup builtinsNs).isSome && (match PySem.W.nsIn K mainGlobals "__builtins__" with
    | some (some (.ref bm)) => (match K.lookup bm with
      | some ob => ob.cls == .type "module" && decide (ob.dict = some builtinsNs)
      | none => false)
    | _ => false)))
theorem seer_of {K : Fr} {h base : Heap} {mb mg : Str → Option Value} (X : K.In h) (Y : K.In base) (hb : h.Ns builtinsNs mb) (hbb : ∀ x : Str, x ≠ "__name__" → mb x = bootBuiltins x) (G : base.Ns mainGlobals mg) (c : seerB K = true) : base.NoSeer := by
  obtain ⟨c1, c2⟩ := ands c
  obtain ⟨c1, c3⟩ := ands c1
  obtain ⟨c3, c4⟩ := ands c3
  obtain ⟨c2, c5⟩ := ands c2
  obtain ⟨c2, c6⟩ := ands c2
  obtain ⟨c5, c7⟩ := ands c5
  refine ⟨⟨_, .of_isNs (PySem.W.isNs_of_in Y c1), PySem.W.nsMap_none_of_in Y c1 (He.eqO_ok c3), PySem.W.nsMap_none_of_in Y c1 (He.eqO_ok c4)⟩, ⟨_, .of_isNs (PySem.W.isNs_of_in Y c2), PySem.W.nsMap_none_of_in Y c2 (He.eqO_ok c6)⟩, ⟨mb, ?_, hbb⟩, ?_⟩
  · obtain ⟨o, ho⟩ := Option.isSome_iff_exists.mp c5
    refine hb.at fun o' e => ?_
    have e2 := X _ _ ho
    rw [e] at e2
    cases e2
    exact Y _ _ ho
  · split at c7
    · rename_i bm q
      split at c7
      · rename_i ob lk
        obtain ⟨d1, d2⟩ := ands c7
        exact ⟨mg, bm, ob, G, PySem.W.mg_of Y G q, Y _ _ lk, eq_of_beq d1, of_decide_eq_true d2⟩
      · cases c7
    · cases c7
/-- an own exception class -/
def excB (K : Fr) (C : Str) (ns : List Str) (d : He.DefD) : Bool :=
  (gloB K C && (PySem.W.excInitIn K (He.ga K C) aeT "ArithmeticError.__new__" && PySem.W.excOver K (He.ga K C) aeT)) &&
  ((He.eqO (PySem.W.findIn K (.ref (He.ga K C)) "__setattr__") (some (some (.builtin "object.__setattr__"))) && (He.eqO (PySem.W.findIn K (.ref (He.ga K C)) "__init__") (some (some (.ref (He.fAd K d.at_)))) && decide (PySem.W.typeIn K (.ref (He.fAd K d.at_)) = some (.type "function")))) &&
  ((PySem.W.keepIn K (.ref (He.ga K C)) && (decide (PySem.W.subIn K (.ref (He.ga K C)) (.type "BaseException") = some true) && decide (PySem.W.typeIn K (.ref (He.ga K C)) = some (.type "type")))) &&
  (PySem.W.hasDictIn K (He.ga K C) && ns.all fun f => He.eqO (PySem.W.findIn K (.ref (He.ga K C)) f) (some none))))
theorem exc_of {K : Fr} {h : Heap} {mg : Str → Option Value} {C : Str} {ns : List Str} {d : He.DefD} {fd : FuncData} (X : K.In h) (G : h.Ns mainGlobals mg) (c : excB K C ns d = true) (F : FunD K d.name d.qual d.params d.body d.scope [] [] (He.fAd K d.at_) fd)
    (hb : initB d.scope ns d.body = true) (hB : Binds K fd ("self" :: ns) []) (h1 : d.scope.isCoroutine = false) (h2 : d.scope.isGenerator = false) (h3 : d.scope.kind = .function) (h4 : d.scope.names.lookup ("self" : Str) = some .local)
    (nd : (("self" : Str) :: ns).Nodup) (ne : ns ≠ []) (few : ns.length ≤ 100) : XC K mg C ns (He.ga K C) (He.fAd K d.at_) := by
  obtain ⟨c1, c2⟩ := ands c
  obtain ⟨c1, c3⟩ := ands c1
  obtain ⟨c3, c4⟩ := ands c3
  obtain ⟨c2, c5⟩ := ands c2
  obtain ⟨c2, c6⟩ := ands c2
  obtain ⟨c6, c7⟩ := ands c6
  obtain ⟨c5, c8⟩ := ands c5
  obtain ⟨c5, c9⟩ := ands c5
  obtain ⟨c9, c10⟩ := ands c9
  obtain ⟨c8, c11⟩ := ands c8
  exact { gC := PySem.W.mg_of X G (He.eqO_ok c1), mkC := c3, ov := c4, sa := He.eqO_ok c2, iC := He.eqO_ok c6, tC := of_decide_eq_true c7, kC := c5, exC := of_decide_eq_true c9, tyC := of_decide_eq_true c10, hdC := c8
          no := fun f hf => He.eqO_ok (List.all_eq_true.mp c11 f hf)
          fn := ⟨_, _, _, _, _, fd, F, hb, hB, h1, h2, h3, h4⟩, nd := nd, ne := ne, few := few }
/-- the classes that fly -/
def excCB (K : Fr) (a : Addr) : Bool := (He.eqO (PySem.W.findIn K (.ref a) "__getattribute__") (some (some (.builtin "BaseException.__getattribute__"))) && He.eqO (PySem.W.findIn K (.ref a) "__getattr__") (some none)) &&
  ((decide (PySem.W.subIn K (.ref a) (.type "BaseException") = some true) && (PySem.W.hasDictIn K a && He.eqO (PySem.W.findIn K (.ref a) "__class__") (some (some (.builtin "object.__class__"))))) &&
  (decide (PySem.W.specialIn K (.builtin "object.__class__") "__get__" = some (some (.builtin "getset_descriptor.__get__"))) && (decide (PySem.W.takesIn K (.builtin "object.__class__") = some true) && decide (PySem.W.mroIn K a (.type "object") = some true))))
def tabB (K : Fr) (cs fs bs : List Str) : Bool := (cs.all fun C => gloB K C && (excCB K (He.ga K C) && ((fs.all fun f => He.eqO (PySem.W.findIn K (.ref (He.ga K C)) f) (some none)) &&
  ((cs.all fun C' => decide (PySem.W.exmOne K (.ref (He.ga K C)) (.ref (He.ga K C')) = some (decide (C = C')))) && bs.all fun B => gloB K B && decide (PySem.W.kitOne K (.ref (He.ga K C)) (.ref (He.ga K B)) = some true))))) &&
  (freeB K "isinstance" && freeB K (Str.ofString "tuple"))
theorem tab_of {V : Gv} {h : Heap} {cs fs bs : List Str} (X : V.K.In h) (G : h.Ns mainGlobals V.mg) (c : tabB V.K cs fs bs = true) : XTab V cs fs bs := by
  obtain ⟨c, c2⟩ := ands c
  obtain ⟨c2, c3⟩ := ands c2
  refine ⟨fun C hC => ?_, PySem.W.mg_none_of X G (He.eqO_ok c2), PySem.W.mg_none_of X G (He.eqO_ok c3)⟩
  obtain ⟨d1, d2⟩ := ands (List.all_eq_true.mp c C hC)
  obtain ⟨d2, d3⟩ := ands d2
  obtain ⟨d3, d4⟩ := ands d3
  obtain ⟨d4, d5⟩ := ands d4
  obtain ⟨e1, e2⟩ := ands d2
  obtain ⟨e1, e3⟩ := ands e1
  obtain ⟨e2, e4⟩ := ands e2
  obtain ⟨e2, e5⟩ := ands e2
  obtain ⟨e5, e6⟩ := ands e5
  obtain ⟨e4, e7⟩ := ands e4
  obtain ⟨e7, e8⟩ := ands e7
  refine ⟨He.ga V.K C, PySem.W.mg_of X G (He.eqO_ok d1), ⟨He.eqO_ok e1, He.eqO_ok e3, of_decide_eq_true e2, e5⟩, ⟨He.eqO_ok e1, He.eqO_ok e3, of_decide_eq_true e2, e5, He.eqO_ok e6, of_decide_eq_true e4, of_decide_eq_true e7, of_decide_eq_true e8⟩,
    fun f hf => He.eqO_ok (List.all_eq_true.mp d3 f hf), fun C' hC' => ?_, fun B hB => ?_⟩
  · obtain ⟨f1, _⟩ := ands (List.all_eq_true.mp c C' hC')
    exact ⟨He.ga V.K C', PySem.W.mg_of X G (He.eqO_ok f1), of_decide_eq_true (List.all_eq_true.mp d4 C' hC')⟩
  · obtain ⟨f1, f2⟩ := ands (List.all_eq_true.mp d5 B hB)
    exact ⟨He.ga V.K B, PySem.W.mg_of X G (He.eqO_ok f1), of_decide_eq_true f2⟩
/-- a global that is an int or a text -/
def intB (K : Fr) (x : Str) (i : Int) : Bool := (He.Fa.int x i).ok K
def strB (K : Fr) (x z : Str) : Bool := (He.Fa.str x z).ok K
theorem glHas_int {V : Gv} {h : Heap} {x : Str} {i : Int} (X : V.K.In h) (G : h.Ns mainGlobals V.mg) (c : intB V.K x i = true) : GlHas V x (.int i) := by
  obtain ⟨t, e⟩ := He.int_ok X G c
  exact ⟨.int i, _, e, ⟨t, rfl⟩, fun _ _ => rep_int⟩
theorem glHas_str {V : Gv} {h : Heap} {x z : Str} (X : V.K.In h) (G : h.Ns mainGlobals V.mg) (c : strB V.K x z = true) : GlHas V x (.str z) := by
  obtain ⟨t, e⟩ := He.str_ok X G c
  exact ⟨.str z, _, e, ⟨t, rfl⟩, fun _ _ => rep_str⟩
/-! ### a def by its datum -/
theorem fnHas_of {P : Program} {w : World} {K : Fr} {mg : Str → Option Value} {base h : Heap} {d : He.DefD} {fd : FuncData} {N ps : List Str} {k km : Nat} {io : List Bool} {m : List D → Option Out} {b : Ss}
    (F : FunD K d.name d.qual d.params d.body d.scope [] [] (He.fAd K d.at_) fd) (X : K.In h) (G : h.Ns mainGlobals mg) (x : Str) (hx : d.at_ = (x, none)) (hg : gloB K x = true) (hB : Binds K fd ps []) (S : FnScope N ps d.scope) (hl : io.length = ps.length) (hk : 32 ≤ k) (hkm : k < km) (seer : base.NoSeer) (tree : P.given.tree = none)
    (hc : chkSs ⟨N, d.scope, fun _ => true⟩ b d.body = true) (ho : OkSs ⟨P, w, K, mg, base⟩ k b) (hm : ∀ ds o, m ds = some o → ∃ n, evFn n io N.length b ds = some o) : FnHas ⟨P, w, K, mg, base⟩ km x ⟨io, m⟩ := by
  refine ⟨k + 1, He.fAd K d.at_, fd, ps, hkm, ?_, F.kp, fn_ok F S hl hk seer tree hc ho hm, hB⟩
  rw [hx]
  exact PySem.W.mg_of X G (He.eqO_ok hg)
/-- a def that promises nothing -/
theorem fnHas_nil {P : Program} {w : World} {K : Fr} {mg : Str → Option Value} {base h : Heap} {d : He.DefD} {fd : FuncData} {N ps : List Str} {k km : Nat} {f : Fn}
    (F : FunD K d.name d.qual d.params d.body d.scope [] [] (He.fAd K d.at_) fd) (X : K.In h) (G : h.Ns mainGlobals mg) (x : Str) (hx : d.at_ = (x, none)) (hg : gloB K x = true) (hB : Binds K fd ps []) (S : FnScope N ps d.scope) (hl : f.io.length = ps.length) (hkm : k < km)
    (hm : ∀ ds, f.m ds = none) : FnHas ⟨P, w, K, mg, base⟩ km x f := by
  refine ⟨k + 1, He.fAd K d.at_, fd, ps, hkm, ?_, F.kp, F.ok S (fun vs H Q E h => h.1.trans hl) fun cdv A outer s H vs Q E hr h => ?_, hB⟩
  · rw [hx]
    exact PySem.W.mg_of X G (He.eqO_ok hg)
  · obtain ⟨_, _, _, ds, o, _, _, em, _⟩ := h
    rw [hm ds] at em
    cases em
theorem FnHas.mono {V : Gv} {j k : Nat} {x : Str} {f : Fn} (h : FnHas V j x f) (hjk : j ≤ k) : FnHas V k x f := by
  obtain ⟨k', a, fd, ps, h1, h2⟩ := h.ex
  exact ⟨k', a, fd, ps, Nat.le_trans h1 hjk, h2⟩
/-! ### the end -/
/-- a script -/
def scriptB : List D → Bool
  | [.lst false xs] => match intsOf xs with
    | some ns => decide (ns.length ≤ 63) && ns.all fun n => decide (Builtin.Int.intBits n ≤ 1048576)
    | none => false
  | _ => false
def mLaw (ds : List D) : Option Out := if scriptB ds then some (.ret (.bl true) []) else none
theorem reps_ints {K : Fr} {mg : Str → Option Value} {G H : Hp} : ∀ ns : List Int, Reps K mg G H (ns.map D.int) (ns.map V.int) (fun _ => False)
  | [] => by simp [Reps]
  | n :: ns => by
    simp only [List.map_cons, Reps]
    exact ⟨_, _, rep_int, reps_ints ns, fun _ z => z.elim, fun a => by simp⟩
theorem intsOf_map : ∀ ns : List Int, intsOf (ns.map D.int) = some ns
  | [] => rfl
  | n :: ns => by simp [intsOf, intsOf_map ns]
theorem sp_law {K : Fr} {mg : Str → Option Value} {H : Hp} {a : Addr} {ns : List Int} (hl : ns.length ≤ 63) (hb : ∀ z ∈ ns, Builtin.Int.intBits z ≤ 1048576) (hS : SqL K H a (ns.map V.int)) : spOf K mg ⟨[false], mLaw⟩ [.ref a] H (fun v _ => v = .bl true) fun _ _ _ => False := by
  refine ⟨rfl, H, fun _ => False, [.lst false (ns.map D.int)], .ret (.bl true) [], ?_, fun a o e => ⟨e, fun z => z⟩, ?_, ?_⟩
  · simp only [Reps, Rep]
    exact ⟨fun _ => False, fun _ => False, ⟨a, ns.map V.int, rfl, hS, reps_ints ns, fun _ z => z⟩, fun _ z => z, fun _ z => z.elim, fun a => by simp⟩
  · have e : scriptB [.lst false (ns.map D.int)] = true := by
      simp only [scriptB, intsOf_map]
      simp only [Bool.and_eq_true, decide_eq_true_eq, List.all_eq_true]
      exact ⟨hl, hb⟩
    show (if scriptB [.lst false (ns.map D.int)] = true then _ else _) = _
    rw [if_pos e]
  · intro v H' G' fp' st r
    have k := r.reps
    obtain ⟨h1, _⟩ := vws_cons (show Vws K mg H' [fz (.bl true)] [v] from by
      have := r.viewT
      exact vws_mk this (by simp [Vws, Reps]))
    exact vw_bl h1
theorem walk_P {l : PySem.W.OpenLaw} {k : Nat} {q : Program} {loose : List Str} {XP : (Str → Option Value) → Heap → Prop} {fn : List He.DefD} {p : Fr → Bool} {d : DefRec} {x : Str}
    (hn : l.most = some 63) (hdf : d.params.defaults = []) (hr : Room k callerA)
    (F : ∀ (w : World) (mg mb : Str → Option Value) (fa : Addr) (h : Heap) (K : Fr), K.In h → SaysP fn p K → h.Ns mainGlobals mg → h.Ns builtinsNs mb → (∀ x : Str, x ≠ "__name__" → mb x = bootBuiltins x) → mg d.name = some (.ref fa) →
      ∃ fd : FuncData, (∀ (s : Shared) (u : Value), BindsTo s fd ⟨[u], []⟩ [(x, u)]) ∧ ∀ base : Heap, K.In base → base.Ns mainGlobals mg → FnOk l.prog w K mg base (L2.CX l.prog w) k fa fd [x] (spOf K mg ⟨[false], mLaw⟩)) :
    PySem.W.WalkO q loose XP (fun _ h => ∃ K : Fr, K.In h ∧ SaysP fn p K) l.row.toRowW d [] (fun f vs => PySem.call f vs) := by
  refine Att.attach_callB hn hdf fun w s₀ s₁ mg mb fa o pm cd doc a vs ns G Y ho hd hcd hmg hobj hints hlen hbits hg => ?_
  obtain ⟨K, KX, c⟩ := Y
  obtain ⟨fd, hb, hF⟩ := F w mg mb fa _ K KX c G.T.g G.T.b G.T.builtins hmg
  exact law_call KX G.T.g G.T.b G.T.builtins G.T.nolimit hg hobj hints (Nat.le_trans hlen (by decide)) hr hF hb (fun H hO hS => sp_law hlen hbits hS) fun H e s' z => by
    obtain ⟨_, _, _, _, _, _, _, _, _, _, _, _, z⟩ := z
    exact z
end Pv

set_option maxHeartbeats 2000000
namespace Pv
open PySem
/-! ### the evaluator, step by step -/
theorem ob_s {A B : Type} (a : A) (f : A → Option B) : ob (some a) f = f a := rfl
theorem ob_n {A B : Type} (f : A → Option B) : ob none f = none := rfl
theorem sc_int (i : Int) : scOnly (some (.int i)) = some (.int i) := rfl
theorem sc_bl (i : Bool) : scOnly (some (.bl i)) = some (.bl i) := rfl
theorem sc_str (i : Str) : scOnly (some (.str i)) = some (.str i) := rfl
theorem sc_non : scOnly (some .non) = some .non := rfl
theorem bd_ok {A B : Type} {a : A} {rs : List D} {f : A → List D → Option (Res B)} : Res.bd (some (.ok a rs)) f = f a rs := rfl
theorem bd_exc {A B : Type} {a : Exc} {rs : List D} {f : A → List D → Option (Res B)} : Res.bd (some (.exc a rs)) f = some (.exc a rs) := rfl
theorem thenE_ok {d : D} {rs : List D} {f : D → List D → Option Fl} : thenE (some (.ok d rs)) f = f d rs := rfl
theorem thenE_exc {x : Exc} {rs : List D} {f : D → List D → Option Fl} : thenE (some (.exc x rs)) f = some (.exc x rs) := rfl
theorem thenT_ok {d : Bool} {rs : List D} {f : Bool → List D → Option Fl} : thenT (some (.ok d rs)) f = f d rs := rfl
theorem thenT_exc {x : Exc} {rs : List D} {f : Bool → List D → Option Fl} : thenT (some (.exc x rs)) f = some (.exc x rs) := rfl
theorem thenA_ok {d : List Arg} {rs : List D} {f : List Arg → List D → Option Fl} : thenA (some (.ok d rs)) f = f d rs := rfl
theorem thenI_ok {d : List D} {rs : List D} {f : List D → List D → Option Fl} : thenI (some (.ok d rs)) f = f d rs := rfl
theorem fl_nx {rs : List D} {f : List D → Option Fl} : Fl.bd (some (.nx rs)) f = f rs := rfl
theorem fl_ret {d : D} {rs : List D} {f : List D → Option Fl} : Fl.bd (some (.ret d rs)) f = some (.ret d rs) := rfl
theorem fl_exc {x : Exc} {rs : List D} {f : List D → Option Fl} : Fl.bd (some (.exc x rs)) f = some (.exc x rs) := rfl
theorem fl_bk {rs : List D} {f : List D → Option Fl} : Fl.bd (some (.bk rs)) f = some (.bk rs) := rfl
theorem fl_ct {rs : List D} {f : List D → Option Fl} : Fl.bd (some (.ct rs)) f = some (.ct rs) := rfl
theorem fl_nil (r : Option Fl) (n : Nat) (io : List Nat) : Fl.bd r (evSs n io .nil) = r := by
  cases r with
  | none => rfl
  | some r => cases r <;> simp [Fl.bd, evSs]
theorem evSs_cons (n : Nat) (io : List Nat) (s : S) (r : Ss) (rs : List D) : evSs n io (.cons s r) rs = Fl.bd (evS n io s rs) (evSs n io r) := by simp only [evSs]
theorem evSs_nil (n : Nat) (io : List Nat) (rs : List D) : evSs n io .nil rs = some (.nx rs) := by simp only [evSs]
section
variable (i j : Int) (a b : Str) (x y : Bool)
theorem d2_add : d2 .add (.int i) (.int j) = some (.int (i + j)) := rfl
theorem d2_sub : d2 .sub (.int i) (.int j) = some (.int (i - j)) := rfl
theorem d2_lt : d2 .lt (.int i) (.int j) = some (.bl (decide (i < j))) := rfl
theorem d2_le : d2 .le (.int i) (.int j) = some (.bl (decide (i ≤ j))) := rfl
theorem d2_gt : d2 .gt (.int i) (.int j) = some (.bl (decide (j < i))) := rfl
theorem d2_ge : d2 .ge (.int i) (.int j) = some (.bl (decide (j ≤ i))) := rfl
theorem d2_eq : d2 .eq (.int i) (.int j) = some (.bl (decide (i = j))) := rfl
theorem d2_ne : d2 .ne (.int i) (.int j) = some (.bl (!decide (i = j))) := rfl
theorem d2_eqs : d2 .eq (.str a) (.str b) = some (.bl (decide (a = b))) := rfl
theorem d2_eqb : d2 .eq (.bl x) (.bl y) = some (.bl (decide (x = y))) := rfl
theorem d2_mul {i j : Int} (h : mulOk i j = true) : d2 .mul (.int i) (.int j) = some (.int (i * j)) := if_pos h
theorem d2_fdiv {i j : Int} (h : j ≠ 0) : d2 .fdiv (.int i) (.int j) = some (.int (i.fdiv j)) := if_neg h
theorem d2_mod {i j : Int} (h : j ≠ 0) : d2 .mod (.int i) (.int j) = some (.int (i.fmod j)) := if_neg h
theorem d2_pow {i j : Int} (h : powOk i j = true) : d2 .pow (.int i) (.int j) = some (.int (i ^ j.toNat)) := if_pos h
theorem d2_isn_non : d2 .isn .non .non = some (.bl true) := rfl
theorem d2_isn_int : d2 .isn (.int i) .non = some (.bl false) := rfl
theorem d2_isn_bl : d2 .isn (.bl x) .non = some (.bl false) := rfl
theorem d2_isn_str : d2 .isn (.str a) .non = some (.bl false) := rfl
theorem d2_isn_tup (l : List D) : d2 .isn (.tup l) .non = some (.bl false) := rfl
theorem d2_isn_lst (o : Bool) (l : List D) : d2 .isn (.lst o l) .non = some (.bl false) := rfl
theorem d2_notn_non : d2 .notn .non .non = some (.bl false) := rfl
theorem d2_notn_int : d2 .notn (.int i) .non = some (.bl true) := rfl
theorem d2_notn_bl : d2 .notn (.bl x) .non = some (.bl true) := rfl
theorem d2_notn_str : d2 .notn (.str a) .non = some (.bl true) := rfl
theorem d2_notn_tup (l : List D) : d2 .notn (.tup l) .non = some (.bl true) := rfl
theorem d2_notn_lst (o : Bool) (l : List D) : d2 .notn (.lst o l) .non = some (.bl true) := rfl
theorem dF_gcd : dF .gcd [.int i, .int j] = some (.int ((Nat.gcd i.natAbs j.natAbs : Nat) : Int)) := rfl
theorem dF_lenL (o : Bool) (l : List D) : dF .len [.lst o l] = some (.int l.length) := rfl
theorem dF_lenT (l : List D) : dF .len [.tup l] = some (.int l.length) := rfl
theorem dF_int : dF .int [.int i] = some (.int i) := rfl
theorem dF_intb : dF .int [.bl x] = some (.int (if x then 1 else 0)) := rfl
theorem dF_abs : dF .abs [.int i] = some (.int (if i < 0 then -i else i)) := rfl
theorem dF_min : dF .min2 [.int i, .int j] = some (.int (if j < i then j else i)) := rfl
theorem dF_max : dF .max2 [.int i, .int j] = some (.int (if j > i then j else i)) := rfl
end
section
variable {α : Type} (a b c d : α)
theorem at2_0 : L2.atI [a, b] 0 = some a := rfl
theorem at2_1 : L2.atI [a, b] 1 = some b := rfl
theorem at3_0 : L2.atI [a, b, c] 0 = some a := rfl
theorem at3_1 : L2.atI [a, b, c] 1 = some b := rfl
theorem at3_2 : L2.atI [a, b, c] 2 = some c := rfl
theorem at4_0 : L2.atI [a, b, c, d] 0 = some a := rfl
theorem at4_1 : L2.atI [a, b, c, d] 1 = some b := rfl
theorem at4_2 : L2.atI [a, b, c, d] 2 = some c := rfl
theorem at4_3 : L2.atI [a, b, c, d] 3 = some d := rfl
end
theorem ix_20 : L2.ixN 2 0 = some 0 := rfl
theorem ix_21 : L2.ixN 2 1 = some 1 := rfl
theorem ix_40 : L2.ixN 4 0 = some 0 := rfl
theorem ix_41 : L2.ixN 4 1 = some 1 := rfl
theorem ix_42 : L2.ixN 4 2 = some 2 := rfl
theorem ix_43 : L2.ixN 4 3 = some 3 := rfl
theorem fzs_ints : ∀ cs : List Int, fzs (cs.map D.int) = cs.map D.int
  | [] => rfl
  | c :: cs => by simp only [List.map_cons, fzs, fz, fzs_ints cs]
theorem at_ints {cs : List Int} {p c : Int} (h0 : 0 ≤ p) (h : cs[p.toNat]? = some c) : L2.atI (cs.map D.int) p = some (.int c) := by
  have hl : p.toNat < cs.length := (List.getElem?_eq_some_iff.mp h).1
  unfold L2.atI L2.ixN
  rw [List.length_map, if_pos h0, if_pos (by omega)]
  show (cs.map D.int)[p.toNat]? = _
  rw [List.getElem?_map, h]
  rfl
theorem un_un : isUn .un = true := rfl
theorem un_non : isUn .non = false := rfl
theorem un_bl (b : Bool) : isUn (.bl b) = false := rfl
theorem un_int (i : Int) : isUn (.int i) = false := rfl
theorem un_str (s : Str) : isUn (.str s) = false := rfl
theorem un_tup (l : List D) : isUn (.tup l) = false := rfl
theorem un_lst (o : Bool) (l : List D) : isUn (.lst o l) = false := rfl
theorem un_obj (o : Bool) (C : Str) (ns : List Str) (l : List D) : isUn (.obj o C ns l) = false := rfl
theorem it_tup (l : List D) : itemsOf (.tup l) = some l := rfl
theorem it_lst (o : Bool) (l : List D) : itemsOf (.lst o l) = some l := rfl
theorem kit_ii : L2.kitB "int" "int" = some true := by decide +kernel
theorem kit_ib : L2.kitB "int" "bool" = some false := by decide +kernel
theorem kit_is : L2.kitB "int" "str" = some false := by decide +kernel
theorem kit_il : L2.kitB "int" "list" = some false := by decide +kernel
theorem kit_it : L2.kitB "int" "tuple" = some false := by decide +kernel
theorem kit_bi : L2.kitB "bool" "int" = some true := by decide +kernel
theorem kit_bb : L2.kitB "bool" "bool" = some true := by decide +kernel
theorem kit_bs : L2.kitB "bool" "str" = some false := by decide +kernel
theorem kit_bl : L2.kitB "bool" "list" = some false := by decide +kernel
theorem kit_bt : L2.kitB "bool" "tuple" = some false := by decide +kernel
theorem kit_si : L2.kitB "str" "int" = some false := by decide +kernel
theorem kit_sb : L2.kitB "str" "bool" = some false := by decide +kernel
theorem kit_ss : L2.kitB "str" "str" = some true := by decide +kernel
theorem kit_sl : L2.kitB "str" "list" = some false := by decide +kernel
theorem kit_st : L2.kitB "str" "tuple" = some false := by decide +kernel
theorem kit_li : L2.kitB "list" "int" = some false := by decide +kernel
theorem kit_lb : L2.kitB "list" "bool" = some false := by decide +kernel
theorem kit_ls : L2.kitB "list" "str" = some false := by decide +kernel
theorem kit_ll : L2.kitB "list" "list" = some true := by decide +kernel
theorem kit_lt : L2.kitB "list" "tuple" = some false := by decide +kernel
theorem kit_ti : L2.kitB "tuple" "int" = some false := by decide +kernel
theorem kit_tb : L2.kitB "tuple" "bool" = some false := by decide +kernel
theorem kit_ts : L2.kitB "tuple" "str" = some false := by decide +kernel
theorem kit_tl : L2.kitB "tuple" "list" = some false := by decide +kernel
theorem kit_tt : L2.kitB "tuple" "tuple" = some true := by decide +kernel
theorem kit_ni : L2.kitB "NoneType" "int" = some false := by decide +kernel
theorem kit_nb : L2.kitB "NoneType" "bool" = some false := by decide +kernel
theorem kit_ns : L2.kitB "NoneType" "str" = some false := by decide +kernel
theorem kit_nl : L2.kitB "NoneType" "list" = some false := by decide +kernel
theorem kit_nt : L2.kitB "NoneType" "tuple" = some false := by decide +kernel
theorem dI_ii (i : Int) : dIs "int" (.int i) = some (.bl true) := by
  show (L2.kitB "int" "int").map D.bl = _
  rw [kit_ii, Option.map_some]
theorem dI_ib (i : Int) : dIs "bool" (.int i) = some (.bl false) := by
  show (L2.kitB "int" "bool").map D.bl = _
  rw [kit_ib, Option.map_some]
theorem dI_is (i : Int) : dIs "str" (.int i) = some (.bl false) := by
  show (L2.kitB "int" "str").map D.bl = _
  rw [kit_is, Option.map_some]
theorem dI_il (i : Int) : dIs "list" (.int i) = some (.bl false) := by
  show (L2.kitB "int" "list").map D.bl = _
  rw [kit_il, Option.map_some]
theorem dI_it (i : Int) : dIs "tuple" (.int i) = some (.bl false) := by
  show (L2.kitB "int" "tuple").map D.bl = _
  rw [kit_it, Option.map_some]
theorem dI_bi (b : Bool) : dIs "int" (.bl b) = some (.bl true) := by
  show (L2.kitB "bool" "int").map D.bl = _
  rw [kit_bi, Option.map_some]
theorem dI_bb (b : Bool) : dIs "bool" (.bl b) = some (.bl true) := by
  show (L2.kitB "bool" "bool").map D.bl = _
  rw [kit_bb, Option.map_some]
theorem dI_bs (b : Bool) : dIs "str" (.bl b) = some (.bl false) := by
  show (L2.kitB "bool" "str").map D.bl = _
  rw [kit_bs, Option.map_some]
theorem dI_bl (b : Bool) : dIs "list" (.bl b) = some (.bl false) := by
  show (L2.kitB "bool" "list").map D.bl = _
  rw [kit_bl, Option.map_some]
theorem dI_bt (b : Bool) : dIs "tuple" (.bl b) = some (.bl false) := by
  show (L2.kitB "bool" "tuple").map D.bl = _
  rw [kit_bt, Option.map_some]
theorem dI_si (s : Str) : dIs "int" (.str s) = some (.bl false) := by
  show (L2.kitB "str" "int").map D.bl = _
  rw [kit_si, Option.map_some]
theorem dI_sb (s : Str) : dIs "bool" (.str s) = some (.bl false) := by
  show (L2.kitB "str" "bool").map D.bl = _
  rw [kit_sb, Option.map_some]
theorem dI_ss (s : Str) : dIs "str" (.str s) = some (.bl true) := by
  show (L2.kitB "str" "str").map D.bl = _
  rw [kit_ss, Option.map_some]
theorem dI_sl (s : Str) : dIs "list" (.str s) = some (.bl false) := by
  show (L2.kitB "str" "list").map D.bl = _
  rw [kit_sl, Option.map_some]
theorem dI_st (s : Str) : dIs "tuple" (.str s) = some (.bl false) := by
  show (L2.kitB "str" "tuple").map D.bl = _
  rw [kit_st, Option.map_some]
theorem dI_li (o : Bool) (l : List D) : dIs "int" (.lst o l) = some (.bl false) := by
  show (L2.kitB "list" "int").map D.bl = _
  rw [kit_li, Option.map_some]
theorem dI_lb (o : Bool) (l : List D) : dIs "bool" (.lst o l) = some (.bl false) := by
  show (L2.kitB "list" "bool").map D.bl = _
  rw [kit_lb, Option.map_some]
theorem dI_ls (o : Bool) (l : List D) : dIs "str" (.lst o l) = some (.bl false) := by
  show (L2.kitB "list" "str").map D.bl = _
  rw [kit_ls, Option.map_some]
theorem dI_ll (o : Bool) (l : List D) : dIs "list" (.lst o l) = some (.bl true) := by
  show (L2.kitB "list" "list").map D.bl = _
  rw [kit_ll, Option.map_some]
theorem dI_lt (o : Bool) (l : List D) : dIs "tuple" (.lst o l) = some (.bl false) := by
  show (L2.kitB "list" "tuple").map D.bl = _
  rw [kit_lt, Option.map_some]
theorem dI_ti (l : List D) : dIs "int" (.tup l) = some (.bl false) := by
  show (L2.kitB "tuple" "int").map D.bl = _
  rw [kit_ti, Option.map_some]
theorem dI_tb (l : List D) : dIs "bool" (.tup l) = some (.bl false) := by
  show (L2.kitB "tuple" "bool").map D.bl = _
  rw [kit_tb, Option.map_some]
theorem dI_ts (l : List D) : dIs "str" (.tup l) = some (.bl false) := by
  show (L2.kitB "tuple" "str").map D.bl = _
  rw [kit_ts, Option.map_some]
theorem dI_tl (l : List D) : dIs "list" (.tup l) = some (.bl false) := by
  show (L2.kitB "tuple" "list").map D.bl = _
  rw [kit_tl, Option.map_some]
theorem dI_tt (l : List D) : dIs "tuple" (.tup l) = some (.bl true) := by
  show (L2.kitB "tuple" "tuple").map D.bl = _
  rw [kit_tt, Option.map_some]
theorem dI_ni  : dIs "int" .non = some (.bl false) := by
  show (L2.kitB "NoneType" "int").map D.bl = _
  rw [kit_ni, Option.map_some]
theorem dI_nb  : dIs "bool" .non = some (.bl false) := by
  show (L2.kitB "NoneType" "bool").map D.bl = _
  rw [kit_nb, Option.map_some]
theorem dI_ns  : dIs "str" .non = some (.bl false) := by
  show (L2.kitB "NoneType" "str").map D.bl = _
  rw [kit_ns, Option.map_some]
theorem dI_nl  : dIs "list" .non = some (.bl false) := by
  show (L2.kitB "NoneType" "list").map D.bl = _
  rw [kit_nl, Option.map_some]
theorem dI_nt  : dIs "tuple" .non = some (.bl false) := by
  show (L2.kitB "NoneType" "tuple").map D.bl = _
  rw [kit_nt, Option.map_some]
theorem cst0 : ((0 : Nat) : Int) = 0 := rfl
theorem cst1 : ((1 : Nat) : Int) = 1 := rfl
theorem cst2 : ((2 : Nat) : Int) = 2 := rfl
theorem cst3 : ((3 : Nat) : Int) = 3 := rfl
theorem cst4 : ((4 : Nat) : Int) = 4 := rfl
theorem cst5 : ((5 : Nat) : Int) = 5 := rfl
theorem cst6 : ((6 : Nat) : Int) = 6 := rfl
theorem cst7 : ((7 : Nat) : Int) = 7 := rfl
theorem cst8 : ((8 : Nat) : Int) = 8 := rfl
theorem cst9 : ((9 : Nat) : Int) = 9 := rfl
theorem cst10 : ((10 : Nat) : Int) = 10 := rfl
theorem cst11 : ((11 : Nat) : Int) = 11 := rfl
theorem cst12 : ((12 : Nat) : Int) = 12 := rfl
theorem mul_of {i j : Int} (a b : Nat) (hi : i.natAbs < 2 ^ a) (hj : j.natAbs < 2 ^ b) (h : a + b ≤ 100000000) (ha : 0 < a) : mulOk i j = true := by
  have key : ∀ (x k : Nat), x < 2 ^ k → 0 < k → x.log2 < k := fun x k h1 h2 => by
    by_cases z : x = 0
    · subst z; simpa using h2
    · exact (Nat.log2_lt z).mpr h1
  have h1 := key _ a hi ha
  unfold mulOk
  refine decide_eq_true ?_
  by_cases hb : b = 0
  · subst hb
    have : j.natAbs = 0 := by omega
    rw [this]
    simp
    omega
  · have h2 := key _ b hj (by omega)
    omega
end Pv

set_option maxHeartbeats 4000000
namespace Pv
open PySem
/-! ### is it an int, and no bool -/
def isIntD : D → Bool
  | .int _ => true
  | _ => false
def m_is_int : List D → Option Out
  | [d] => match tyName d with
    | some _ => some (.ret (.bl (isIntD d)) [])
    | none => none
  | _ => none
def F_L_is_int : Fn := ⟨[false], m_is_int⟩
def F_is_whole : Fn := ⟨[false], m_is_int⟩
def b_L_is_int : Ss := .cons (.ret (.land (.cons (.pk (.isi (.var 0) "int")) (.cons (.lnot (.pk (.isi (.var 0) "bool"))) (.nil))))) (.nil)
def n_L_is_int : Nat := 1
def b_is_whole : Ss := .cons (.ret (.land (.cons (.pk (.isi (.var 0) "int")) (.cons (.lnot (.pk (.isi (.var 0) "bool"))) (.nil))))) (.nil)
def n_is_whole : Nat := 1
theorem hm_L_is_int : ∀ ds o, m_is_int ds = some o → ∃ n, evFn n [false] 1 b_L_is_int ds = some o := by
  intro ds o h
  refine ⟨0, ?_⟩
  match ds, h with
  | [d], h =>
    cases d <;> first | (cases h; done) | (cases h; rfl)
/-! ### lowest terms -/
def lowI (a b : Int) : Int × Int := (if b < 0 then ((-a).fdiv (Nat.gcd a.natAbs b.natAbs : Nat), (-b).fdiv (Nat.gcd a.natAbs b.natAbs : Nat)) else (a.fdiv (Nat.gcd a.natAbs b.natAbs : Nat), b.fdiv (Nat.gcd a.natAbs b.natAbs : Nat)))
def frD (p : Int × Int) : D := .tup [.int p.1, .int p.2]
def m_low : List D → Option Out
  | [.int a, .int b] => if b = 0 then none else some (.ret (frD (lowI a b)) [])
  | _ => none
def F_lowest : Fn := ⟨[false, false], m_low⟩
def F_L_low : Fn := ⟨[false, false], m_low⟩
def b_lowest : Ss := .cons (.ite (.pk (.op2 .lt (.var 1) (.con (.int 0)))) (.cons (.asg (.nm 0) (.pk (.neg (.var 0)))) (.cons (.asg (.nm 1) (.pk (.neg (.var 1)))) (.nil))) (.nil)) (.cons (.asg (.nm 2) (.pk (.fnc .gcd (.cons (.var 0) (.cons (.var 1) (.nil)))))) (.cons (.ret (.tup (.cons (.pk (.op2 .fdiv (.var 0) (.var 2))) (.cons (.pk (.op2 .fdiv (.var 1) (.var 2))) (.nil))))) (.nil)))
def n_lowest : Nat := 3
theorem gcd_ne {a b : Int} (h : b ≠ 0) : ((Nat.gcd a.natAbs b.natAbs : Nat) : Int) ≠ 0 := fun z => by
  have := (Nat.gcd_eq_zero_iff.mp (Int.ofNat.inj z)).2
  omega
theorem hm_lowest : ∀ ds o, m_low ds = some o → ∃ n, evFn n [false, false] 3 b_lowest ds = some o := by
  intro ds o h
  refine ⟨0, ?_⟩
  match ds, h with
  | [.int a, .int b], h =>
    simp only [m_low] at h
    split at h
    · cases h
    rename_i hb
    cases h
    have g := gcd_ne (a := a) hb
    unfold evFn b_lowest
    by_cases c : b < 0
    · have g2 : ((Nat.gcd (-a).natAbs (-b).natAbs : Nat) : Int) ≠ 0 := by rw [Int.natAbs_neg, Int.natAbs_neg]; exact g
      rw [evSs_cons]; simp -implicitDefEqProofs only [evS, evT, evE, evP, evPs, evV, evA, evAnd, evOr, evI, Pv.a0, Pv.a1, Pv.v0, Pv.v1, opd, slotOf, satOp, Pv.two, Pv.one, ob_s, ob_n, sc_int, sc_bl, sc_str, sc_non, bd_ok, bd_exc, thenE_ok, thenE_exc, thenT_ok, thenT_exc, thenA_ok, thenI_ok, fl_nx, fl_ret, fl_exc, fl_bk, fl_ct, fl_nil, evSs_nil, asBl, asInt, un_non, un_bl, un_int, un_str, un_tup, un_lst, un_obj, un_un, fz, fzs, isSc, isScs, isFz, isFzs, isOwn, isOwns, dNeg, dT, tgA, setAll, okS, res, at2, it_tup, it_lst, chnD, lItems, tmps, cpyLoc, cpyTmp, ixTmp, ioPos, outFl, outsOf, fzs_ints, Pv.sto1, Pv.sto2, ownItems, at2_0, at2_1, at3_0, at3_1, at3_2, at4_0, at4_1, at4_2, at4_3, ix_20, ix_21, ix_40, ix_41, ix_42, ix_43, List.length_map, isFzs, d2_add, d2_sub, d2_lt, d2_le, d2_gt, d2_ge, d2_eq, d2_ne, d2_eqs, d2_eqb, d2_isn_non, d2_isn_int, d2_isn_bl, d2_isn_str, d2_isn_tup, d2_isn_lst, d2_notn_non, d2_notn_int, d2_notn_bl, d2_notn_str, d2_notn_tup, d2_notn_lst, d2_mod, d2_fdiv, Int.reduceToNat, Int.reducePow, Int.reduceEq, Int.reduceLT, Int.reduceLE, Int.reduceNeg, Int.reduceMul, Int.reduceAdd, Int.reduceSub, cst0, cst1, cst2, cst3, cst4, cst5, cst6, cst7, cst8, cst9, cst10, cst11, cst12, ne_eq, not_false_eq_true, not_true_eq_false, dF_gcd, dF_lenL, dF_lenT, dF_int, dF_intb, dF_abs, dF_min, dF_max, dI_ii, dI_ib, dI_is, dI_il, dI_it, dI_bi, dI_bb, dI_bs, dI_bl, dI_bt, dI_si, dI_sb, dI_ss, dI_sl, dI_st, dI_li, dI_lb, dI_ls, dI_ll, dI_lt, dI_ti, dI_tb, dI_ts, dI_tl, dI_tt, dI_ni, dI_nb, dI_ns, dI_nl, dI_nt, Option.map_some, List.length_cons, List.length_nil, List.getElem?_cons_zero, List.getElem?_cons_succ, List.getElem?_nil, List.set_cons_zero, List.set_cons_succ, List.set_nil, List.map_cons, List.map_nil, List.cons_append, List.nil_append, List.append_nil, List.replicate, List.getD_cons_zero, List.getD_cons_succ, List.contains_nil, List.contains_cons, Nat.reduceBEq, Bool.or_false, Bool.false_or, Bool.or_self, Bool.or_true, Bool.true_or, List.isEmpty_nil, List.isEmpty_cons, decide_true, decide_false, if_true, if_false, Bool.false_eq_true, Bool.not_true, Bool.not_false, Bool.and_true, Bool.true_and, Bool.and_self, Bool.and_false, Bool.false_and, reduceIte, Nat.zero_add, Nat.reduceAdd, Nat.reduceSub, Nat.reduceLT, Nat.reduceLeDiff, Nat.reduceEqDiff, decide_eq_true_eq, eq_self, Option.some.injEq, reduceCtorEq, Nat.lt_irrefl, evSs_cons, c, d2_fdiv g2, Int.natAbs_neg, d2_fdiv g, lowI, frD]
    · rw [evSs_cons]; simp -implicitDefEqProofs only [evS, evT, evE, evP, evPs, evV, evA, evAnd, evOr, evI, Pv.a0, Pv.a1, Pv.v0, Pv.v1, opd, slotOf, satOp, Pv.two, Pv.one, ob_s, ob_n, sc_int, sc_bl, sc_str, sc_non, bd_ok, bd_exc, thenE_ok, thenE_exc, thenT_ok, thenT_exc, thenA_ok, thenI_ok, fl_nx, fl_ret, fl_exc, fl_bk, fl_ct, fl_nil, evSs_nil, asBl, asInt, un_non, un_bl, un_int, un_str, un_tup, un_lst, un_obj, un_un, fz, fzs, isSc, isScs, isFz, isFzs, isOwn, isOwns, dNeg, dT, tgA, setAll, okS, res, at2, it_tup, it_lst, chnD, lItems, tmps, cpyLoc, cpyTmp, ixTmp, ioPos, outFl, outsOf, fzs_ints, Pv.sto1, Pv.sto2, ownItems, at2_0, at2_1, at3_0, at3_1, at3_2, at4_0, at4_1, at4_2, at4_3, ix_20, ix_21, ix_40, ix_41, ix_42, ix_43, List.length_map, isFzs, d2_add, d2_sub, d2_lt, d2_le, d2_gt, d2_ge, d2_eq, d2_ne, d2_eqs, d2_eqb, d2_isn_non, d2_isn_int, d2_isn_bl, d2_isn_str, d2_isn_tup, d2_isn_lst, d2_notn_non, d2_notn_int, d2_notn_bl, d2_notn_str, d2_notn_tup, d2_notn_lst, d2_mod, d2_fdiv, Int.reduceToNat, Int.reducePow, Int.reduceEq, Int.reduceLT, Int.reduceLE, Int.reduceNeg, Int.reduceMul, Int.reduceAdd, Int.reduceSub, cst0, cst1, cst2, cst3, cst4, cst5, cst6, cst7, cst8, cst9, cst10, cst11, cst12, ne_eq, not_false_eq_true, not_true_eq_false, dF_gcd, dF_lenL, dF_lenT, dF_int, dF_intb, dF_abs, dF_min, dF_max, dI_ii, dI_ib, dI_is, dI_il, dI_it, dI_bi, dI_bb, dI_bs, dI_bl, dI_bt, dI_si, dI_sb, dI_ss, dI_sl, dI_st, dI_li, dI_lb, dI_ls, dI_ll, dI_lt, dI_ti, dI_tb, dI_ts, dI_tl, dI_tt, dI_ni, dI_nb, dI_ns, dI_nl, dI_nt, Option.map_some, List.length_cons, List.length_nil, List.getElem?_cons_zero, List.getElem?_cons_succ, List.getElem?_nil, List.set_cons_zero, List.set_cons_succ, List.set_nil, List.map_cons, List.map_nil, List.cons_append, List.nil_append, List.append_nil, List.replicate, List.getD_cons_zero, List.getD_cons_succ, List.contains_nil, List.contains_cons, Nat.reduceBEq, Bool.or_false, Bool.false_or, Bool.or_self, Bool.or_true, Bool.true_or, List.isEmpty_nil, List.isEmpty_cons, decide_true, decide_false, if_true, if_false, Bool.false_eq_true, Bool.not_true, Bool.not_false, Bool.and_true, Bool.true_and, Bool.and_self, Bool.and_false, Bool.false_and, reduceIte, Nat.zero_add, Nat.reduceAdd, Nat.reduceSub, Nat.reduceLT, Nat.reduceLeDiff, Nat.reduceEqDiff, decide_eq_true_eq, eq_self, Option.some.injEq, reduceCtorEq, Nat.lt_irrefl, evSs_cons, c, d2_fdiv g, lowI, frD]
theorem hm_is_whole : ∀ ds o, m_is_int ds = some o → ∃ n, evFn n [false] 1 b_is_whole ds = some o := hm_L_is_int
def b_L_gcd : Ss := .cons (.whl (.pk (.op2 .ne (.var 1) (.con (.int 0)))) (.cons (.asg (.nm 2) (.pk (.op2 .mod (.fnc .int (.cons (.var 0) (.nil))) (.var 1)))) (.cons (.asg (.nm 0) (.var 1)) (.cons (.asg (.nm 1) (.var 2)) (.nil))))) (.cons (.ret (.var 0)) (.nil))
def n_L_gcd : Nat := 3
def m_gcd : List D → Option Out
  | [.int a, .int b] => if 0 ≤ a ∧ 0 ≤ b then some (.ret (.int ((Nat.gcd a.natAbs b.natAbs : Nat) : Int)) []) else none
  | _ => none
def F_L_gcd : Fn := ⟨[false, false], m_gcd⟩
theorem gcd_loop : ∀ (b : Nat) (a : Nat) (d : D), ∃ n d', ∀ m n0, n ≤ m → whlL (evT (.pk (.op2 .ne (.var 1) (.con (.int 0))))) (evSs n0 [] (.cons (.asg (.nm 2) (.pk (.op2 .mod (.fnc .int (.cons (.var 0) (.nil))) (.var 1)))) (.cons (.asg (.nm 0) (.var 1)) (.cons (.asg (.nm 1) (.var 2)) (.nil))))) m [.int a, .int b, d] = some (.nx [.int (Nat.gcd a b : Nat), .int 0, d']) := by
  intro b
  induction b using Nat.strongRecOn with
  | _ b ih =>
    intro a d
    by_cases hb : b = 0
    · subst hb
      refine ⟨1, d, fun m n0 hm => ?_⟩
      obtain ⟨m, rfl⟩ : ∃ k, m = k + 1 := ⟨m - 1, by omega⟩
      simp only [whlL]
      simp -implicitDefEqProofs only [evS, evT, evE, evP, evPs, evV, evA, evAnd, evOr, evI, Pv.a0, Pv.a1, Pv.v0, Pv.v1, opd, slotOf, satOp, Pv.two, Pv.one, ob_s, ob_n, sc_int, sc_bl, sc_str, sc_non, bd_ok, bd_exc, thenE_ok, thenE_exc, thenT_ok, thenT_exc, thenA_ok, thenI_ok, fl_nx, fl_ret, fl_exc, fl_bk, fl_ct, fl_nil, evSs_nil, asBl, asInt, un_non, un_bl, un_int, un_str, un_tup, un_lst, un_obj, un_un, fz, fzs, isSc, isScs, isFz, isFzs, isOwn, isOwns, dNeg, dT, tgA, setAll, okS, res, at2, it_tup, it_lst, chnD, lItems, tmps, cpyLoc, cpyTmp, ixTmp, ioPos, outFl, outsOf, fzs_ints, Pv.sto1, Pv.sto2, ownItems, at2_0, at2_1, at3_0, at3_1, at3_2, at4_0, at4_1, at4_2, at4_3, ix_20, ix_21, ix_40, ix_41, ix_42, ix_43, List.length_map, isFzs, d2_add, d2_sub, d2_lt, d2_le, d2_gt, d2_ge, d2_eq, d2_ne, d2_eqs, d2_eqb, d2_isn_non, d2_isn_int, d2_isn_bl, d2_isn_str, d2_isn_tup, d2_isn_lst, d2_notn_non, d2_notn_int, d2_notn_bl, d2_notn_str, d2_notn_tup, d2_notn_lst, d2_mod, d2_fdiv, Int.reduceToNat, Int.reducePow, Int.reduceEq, Int.reduceLT, Int.reduceLE, Int.reduceNeg, Int.reduceMul, Int.reduceAdd, Int.reduceSub, cst0, cst1, cst2, cst3, cst4, cst5, cst6, cst7, cst8, cst9, cst10, cst11, cst12, ne_eq, not_false_eq_true, not_true_eq_false, dF_gcd, dF_lenL, dF_lenT, dF_int, dF_intb, dF_abs, dF_min, dF_max, dI_ii, dI_ib, dI_is, dI_il, dI_it, dI_bi, dI_bb, dI_bs, dI_bl, dI_bt, dI_si, dI_sb, dI_ss, dI_sl, dI_st, dI_li, dI_lb, dI_ls, dI_ll, dI_lt, dI_ti, dI_tb, dI_ts, dI_tl, dI_tt, dI_ni, dI_nb, dI_ns, dI_nl, dI_nt, Option.map_some, List.length_cons, List.length_nil, List.getElem?_cons_zero, List.getElem?_cons_succ, List.getElem?_nil, List.set_cons_zero, List.set_cons_succ, List.set_nil, List.map_cons, List.map_nil, List.cons_append, List.nil_append, List.append_nil, List.replicate, List.getD_cons_zero, List.getD_cons_succ, List.contains_nil, List.contains_cons, Nat.reduceBEq, Bool.or_false, Bool.false_or, Bool.or_self, Bool.or_true, Bool.true_or, List.isEmpty_nil, List.isEmpty_cons, decide_true, decide_false, if_true, if_false, Bool.false_eq_true, Bool.not_true, Bool.not_false, Bool.and_true, Bool.true_and, Bool.and_self, Bool.and_false, Bool.false_and, reduceIte, Nat.zero_add, Nat.reduceAdd, Nat.reduceSub, Nat.reduceLT, Nat.reduceLeDiff, Nat.reduceEqDiff, decide_eq_true_eq, eq_self, Option.some.injEq, reduceCtorEq, Nat.lt_irrefl, Int.ofNat_eq_zero, Nat.gcd_zero_right]
    · have hb' : (b : Int) ≠ 0 := by omega
      obtain ⟨n, d', h⟩ := ih (a % b) (Nat.mod_lt _ (by omega)) b (.int ((a % b : Nat) : Int))
      refine ⟨n + 1, d', fun m n0 hm => ?_⟩
      obtain ⟨m, rfl⟩ : ∃ k, m = k + 1 := ⟨m - 1, by omega⟩
      have e : (a : Int).fmod b = ((a % b : Nat) : Int) := by
        rw [Int.fmod_eq_emod_of_nonneg _ (by omega)]
        rfl
      simp only [whlL]
      simp -implicitDefEqProofs only [evS, evT, evE, evP, evPs, evV, evA, evAnd, evOr, evI, Pv.a0, Pv.a1, Pv.v0, Pv.v1, opd, slotOf, satOp, Pv.two, Pv.one, ob_s, ob_n, sc_int, sc_bl, sc_str, sc_non, bd_ok, bd_exc, thenE_ok, thenE_exc, thenT_ok, thenT_exc, thenA_ok, thenI_ok, fl_nx, fl_ret, fl_exc, fl_bk, fl_ct, fl_nil, evSs_nil, asBl, asInt, un_non, un_bl, un_int, un_str, un_tup, un_lst, un_obj, un_un, fz, fzs, isSc, isScs, isFz, isFzs, isOwn, isOwns, dNeg, dT, tgA, setAll, okS, res, at2, it_tup, it_lst, chnD, lItems, tmps, cpyLoc, cpyTmp, ixTmp, ioPos, outFl, outsOf, fzs_ints, Pv.sto1, Pv.sto2, ownItems, at2_0, at2_1, at3_0, at3_1, at3_2, at4_0, at4_1, at4_2, at4_3, ix_20, ix_21, ix_40, ix_41, ix_42, ix_43, List.length_map, isFzs, d2_add, d2_sub, d2_lt, d2_le, d2_gt, d2_ge, d2_eq, d2_ne, d2_eqs, d2_eqb, d2_isn_non, d2_isn_int, d2_isn_bl, d2_isn_str, d2_isn_tup, d2_isn_lst, d2_notn_non, d2_notn_int, d2_notn_bl, d2_notn_str, d2_notn_tup, d2_notn_lst, d2_mod, d2_fdiv, Int.reduceToNat, Int.reducePow, Int.reduceEq, Int.reduceLT, Int.reduceLE, Int.reduceNeg, Int.reduceMul, Int.reduceAdd, Int.reduceSub, cst0, cst1, cst2, cst3, cst4, cst5, cst6, cst7, cst8, cst9, cst10, cst11, cst12, ne_eq, not_false_eq_true, not_true_eq_false, dF_gcd, dF_lenL, dF_lenT, dF_int, dF_intb, dF_abs, dF_min, dF_max, dI_ii, dI_ib, dI_is, dI_il, dI_it, dI_bi, dI_bb, dI_bs, dI_bl, dI_bt, dI_si, dI_sb, dI_ss, dI_sl, dI_st, dI_li, dI_lb, dI_ls, dI_ll, dI_lt, dI_ti, dI_tb, dI_ts, dI_tl, dI_tt, dI_ni, dI_nb, dI_ns, dI_nl, dI_nt, Option.map_some, List.length_cons, List.length_nil, List.getElem?_cons_zero, List.getElem?_cons_succ, List.getElem?_nil, List.set_cons_zero, List.set_cons_succ, List.set_nil, List.map_cons, List.map_nil, List.cons_append, List.nil_append, List.append_nil, List.replicate, List.getD_cons_zero, List.getD_cons_succ, List.contains_nil, List.contains_cons, Nat.reduceBEq, Bool.or_false, Bool.false_or, Bool.or_self, Bool.or_true, Bool.true_or, List.isEmpty_nil, List.isEmpty_cons, decide_true, decide_false, if_true, if_false, Bool.false_eq_true, Bool.not_true, Bool.not_false, Bool.and_true, Bool.true_and, Bool.and_self, Bool.and_false, Bool.false_and, reduceIte, Nat.zero_add, Nat.reduceAdd, Nat.reduceSub, Nat.reduceLT, Nat.reduceLeDiff, Nat.reduceEqDiff, decide_eq_true_eq, eq_self, Option.some.injEq, reduceCtorEq, Nat.lt_irrefl, hb', evSs_cons, d2_mod hb', e, ne_eq, not_false_eq_true]
      rw [h m n0 (by omega), Nat.gcd_comm a b, Nat.gcd_comm b (a % b), ← Nat.gcd_rec b a]
theorem hm_L_gcd : ∀ ds o, m_gcd ds = some o → ∃ n, evFn n [false, false] 3 b_L_gcd ds = some o := by
  intro ds o h
  match ds, h with
  | [.int a, .int b], h =>
    simp only [m_gcd] at h
    split at h
    case isFalse => cases h
    rename_i hab
    cases h
    obtain ⟨n, d', hn⟩ := gcd_loop b.natAbs a.natAbs .un
    have ea : ((a.natAbs : Nat) : Int) = a := by omega
    have eb : ((b.natAbs : Nat) : Int) = b := by omega
    rw [ea, eb] at hn
    refine ⟨n, ?_⟩
    unfold evFn b_L_gcd
    simp -implicitDefEqProofs only [evS, evT, evE, evP, evPs, evV, evA, evAnd, evOr, evI, Pv.a0, Pv.a1, Pv.v0, Pv.v1, opd, slotOf, satOp, Pv.two, Pv.one, ob_s, ob_n, sc_int, sc_bl, sc_str, sc_non, bd_ok, bd_exc, thenE_ok, thenE_exc, thenT_ok, thenT_exc, thenA_ok, thenI_ok, fl_nx, fl_ret, fl_exc, fl_bk, fl_ct, fl_nil, evSs_nil, asBl, asInt, un_non, un_bl, un_int, un_str, un_tup, un_lst, un_obj, un_un, fz, fzs, isSc, isScs, isFz, isFzs, isOwn, isOwns, dNeg, dT, tgA, setAll, okS, res, at2, it_tup, it_lst, chnD, lItems, tmps, cpyLoc, cpyTmp, ixTmp, ioPos, outFl, outsOf, fzs_ints, Pv.sto1, Pv.sto2, ownItems, at2_0, at2_1, at3_0, at3_1, at3_2, at4_0, at4_1, at4_2, at4_3, ix_20, ix_21, ix_40, ix_41, ix_42, ix_43, List.length_map, isFzs, d2_add, d2_sub, d2_lt, d2_le, d2_gt, d2_ge, d2_eq, d2_ne, d2_eqs, d2_eqb, d2_isn_non, d2_isn_int, d2_isn_bl, d2_isn_str, d2_isn_tup, d2_isn_lst, d2_notn_non, d2_notn_int, d2_notn_bl, d2_notn_str, d2_notn_tup, d2_notn_lst, d2_mod, d2_fdiv, Int.reduceToNat, Int.reducePow, Int.reduceEq, Int.reduceLT, Int.reduceLE, Int.reduceNeg, Int.reduceMul, Int.reduceAdd, Int.reduceSub, cst0, cst1, cst2, cst3, cst4, cst5, cst6, cst7, cst8, cst9, cst10, cst11, cst12, ne_eq, not_false_eq_true, not_true_eq_false, dF_gcd, dF_lenL, dF_lenT, dF_int, dF_intb, dF_abs, dF_min, dF_max, dI_ii, dI_ib, dI_is, dI_il, dI_it, dI_bi, dI_bb, dI_bs, dI_bl, dI_bt, dI_si, dI_sb, dI_ss, dI_sl, dI_st, dI_li, dI_lb, dI_ls, dI_ll, dI_lt, dI_ti, dI_tb, dI_ts, dI_tl, dI_tt, dI_ni, dI_nb, dI_ns, dI_nl, dI_nt, Option.map_some, List.length_cons, List.length_nil, List.getElem?_cons_zero, List.getElem?_cons_succ, List.getElem?_nil, List.set_cons_zero, List.set_cons_succ, List.set_nil, List.map_cons, List.map_nil, List.cons_append, List.nil_append, List.append_nil, List.replicate, List.getD_cons_zero, List.getD_cons_succ, List.contains_nil, List.contains_cons, Nat.reduceBEq, Bool.or_false, Bool.false_or, Bool.or_self, Bool.or_true, Bool.true_or, List.isEmpty_nil, List.isEmpty_cons, decide_true, decide_false, if_true, if_false, Bool.false_eq_true, Bool.not_true, Bool.not_false, Bool.and_true, Bool.true_and, Bool.and_self, Bool.and_false, Bool.false_and, reduceIte, Nat.zero_add, Nat.reduceAdd, Nat.reduceSub, Nat.reduceLT, Nat.reduceLeDiff, Nat.reduceEqDiff, decide_eq_true_eq, eq_self, Option.some.injEq, reduceCtorEq, Nat.lt_irrefl, evSs_cons, hn n n (Nat.le_refl _)]
/-! ### lowest terms, reckoned by the law's own gcd -/
def b_L_low : Ss := .cons (.ite (.pk (.op2 .lt (.var 1) (.con (.int 0)))) (.cons (.asg (.nm 0) (.pk (.op2 .sub (.con (.int 0)) (.var 0)))) (.cons (.asg (.nm 1) (.pk (.op2 .sub (.con (.int 0)) (.var 1)))) (.nil))) (.nil)) (.cons (.asg (.nm 2) (.call "_law_gcd" F_L_gcd (.cons (.pk (.fnc .abs (.cons (.var 0) (.nil)))) (.cons (.var 1) (.nil))))) (.cons (.ret (.tup (.cons (.pk (.op2 .fdiv (.var 0) (.var 2))) (.cons (.pk (.op2 .fdiv (.var 1) (.var 2))) (.nil))))) (.nil)))
def n_L_low : Nat := 3
theorem hm_L_low : ∀ ds o, m_low ds = some o → ∃ n, evFn n [false, false] 3 b_L_low ds = some o := by
  intro ds o h
  refine ⟨0, ?_⟩
  match ds, h with
  | [.int a, .int b], h =>
    simp only [m_low] at h
    split at h
    · cases h
    rename_i hb
    cases h
    have g := gcd_ne (a := a) hb
    have hg : ∀ x y : Int, 0 ≤ x → 0 ≤ y → m_gcd [.int x, .int y] = some (.ret (.int ((Nat.gcd x.natAbs y.natAbs : Nat) : Int)) []) := fun x y h1 h2 => if_pos ⟨h1, h2⟩
    unfold evFn b_L_low
    have ab : (if a < 0 then -a else a) = (a.natAbs : Int) := by split <;> omega
    have ab2 : (if 0 - a < 0 then -(0 - a) else 0 - a) = (a.natAbs : Int) := by split <;> omega
    by_cases c : b < 0
    · rw [evSs_cons]; simp -implicitDefEqProofs only [evS, evT, evE, evP, evPs, evV, evA, evAnd, evOr, evI, Pv.a0, Pv.a1, Pv.v0, Pv.v1, opd, slotOf, satOp, Pv.two, Pv.one, ob_s, ob_n, sc_int, sc_bl, sc_str, sc_non, bd_ok, bd_exc, thenE_ok, thenE_exc, thenT_ok, thenT_exc, thenA_ok, thenI_ok, fl_nx, fl_ret, fl_exc, fl_bk, fl_ct, fl_nil, evSs_nil, asBl, asInt, un_non, un_bl, un_int, un_str, un_tup, un_lst, un_obj, un_un, fz, fzs, isSc, isScs, isFz, isFzs, isOwn, isOwns, dNeg, dT, tgA, setAll, okS, res, at2, it_tup, it_lst, chnD, lItems, tmps, cpyLoc, cpyTmp, ixTmp, ioPos, outFl, outsOf, fzs_ints, Pv.sto1, Pv.sto2, ownItems, at2_0, at2_1, at3_0, at3_1, at3_2, at4_0, at4_1, at4_2, at4_3, ix_20, ix_21, ix_40, ix_41, ix_42, ix_43, List.length_map, isFzs, d2_add, d2_sub, d2_lt, d2_le, d2_gt, d2_ge, d2_eq, d2_ne, d2_eqs, d2_eqb, d2_isn_non, d2_isn_int, d2_isn_bl, d2_isn_str, d2_isn_tup, d2_isn_lst, d2_notn_non, d2_notn_int, d2_notn_bl, d2_notn_str, d2_notn_tup, d2_notn_lst, d2_mod, d2_fdiv, Int.reduceToNat, Int.reducePow, Int.reduceEq, Int.reduceLT, Int.reduceLE, Int.reduceNeg, Int.reduceMul, Int.reduceAdd, Int.reduceSub, cst0, cst1, cst2, cst3, cst4, cst5, cst6, cst7, cst8, cst9, cst10, cst11, cst12, ne_eq, not_false_eq_true, not_true_eq_false, dF_gcd, dF_lenL, dF_lenT, dF_int, dF_intb, dF_abs, dF_min, dF_max, dI_ii, dI_ib, dI_is, dI_il, dI_it, dI_bi, dI_bb, dI_bs, dI_bl, dI_bt, dI_si, dI_sb, dI_ss, dI_sl, dI_st, dI_li, dI_lb, dI_ls, dI_ll, dI_lt, dI_ti, dI_tb, dI_ts, dI_tl, dI_tt, dI_ni, dI_nb, dI_ns, dI_nl, dI_nt, Option.map_some, List.length_cons, List.length_nil, List.getElem?_cons_zero, List.getElem?_cons_succ, List.getElem?_nil, List.set_cons_zero, List.set_cons_succ, List.set_nil, List.map_cons, List.map_nil, List.cons_append, List.nil_append, List.append_nil, List.replicate, List.getD_cons_zero, List.getD_cons_succ, List.contains_nil, List.contains_cons, Nat.reduceBEq, Bool.or_false, Bool.false_or, Bool.or_self, Bool.or_true, Bool.true_or, List.isEmpty_nil, List.isEmpty_cons, decide_true, decide_false, if_true, if_false, Bool.false_eq_true, Bool.not_true, Bool.not_false, Bool.and_true, Bool.true_and, Bool.and_self, Bool.and_false, Bool.false_and, reduceIte, Nat.zero_add, Nat.reduceAdd, Nat.reduceSub, Nat.reduceLT, Nat.reduceLeDiff, Nat.reduceEqDiff, decide_eq_true_eq, eq_self, Option.some.injEq, reduceCtorEq, Nat.lt_irrefl, evSs_cons, c, Int.zero_sub]
      have ab3 : (if -a < 0 then - -a else -a) = (a.natAbs : Int) := by split <;> omega
      rw [ab3]
      simp -implicitDefEqProofs only [evS, evT, evE, evP, evPs, evV, evA, evAnd, evOr, evI, Pv.a0, Pv.a1, Pv.v0, Pv.v1, opd, slotOf, satOp, Pv.two, Pv.one, ob_s, ob_n, sc_int, sc_bl, sc_str, sc_non, bd_ok, bd_exc, thenE_ok, thenE_exc, thenT_ok, thenT_exc, thenA_ok, thenI_ok, fl_nx, fl_ret, fl_exc, fl_bk, fl_ct, fl_nil, evSs_nil, asBl, asInt, un_non, un_bl, un_int, un_str, un_tup, un_lst, un_obj, un_un, fz, fzs, isSc, isScs, isFz, isFzs, isOwn, isOwns, dNeg, dT, tgA, setAll, okS, res, at2, it_tup, it_lst, chnD, lItems, tmps, cpyLoc, cpyTmp, ixTmp, ioPos, outFl, outsOf, fzs_ints, Pv.sto1, Pv.sto2, ownItems, at2_0, at2_1, at3_0, at3_1, at3_2, at4_0, at4_1, at4_2, at4_3, ix_20, ix_21, ix_40, ix_41, ix_42, ix_43, List.length_map, isFzs, d2_add, d2_sub, d2_lt, d2_le, d2_gt, d2_ge, d2_eq, d2_ne, d2_eqs, d2_eqb, d2_isn_non, d2_isn_int, d2_isn_bl, d2_isn_str, d2_isn_tup, d2_isn_lst, d2_notn_non, d2_notn_int, d2_notn_bl, d2_notn_str, d2_notn_tup, d2_notn_lst, d2_mod, d2_fdiv, Int.reduceToNat, Int.reducePow, Int.reduceEq, Int.reduceLT, Int.reduceLE, Int.reduceNeg, Int.reduceMul, Int.reduceAdd, Int.reduceSub, cst0, cst1, cst2, cst3, cst4, cst5, cst6, cst7, cst8, cst9, cst10, cst11, cst12, ne_eq, not_false_eq_true, not_true_eq_false, dF_gcd, dF_lenL, dF_lenT, dF_int, dF_intb, dF_abs, dF_min, dF_max, dI_ii, dI_ib, dI_is, dI_il, dI_it, dI_bi, dI_bb, dI_bs, dI_bl, dI_bt, dI_si, dI_sb, dI_ss, dI_sl, dI_st, dI_li, dI_lb, dI_ls, dI_ll, dI_lt, dI_ti, dI_tb, dI_ts, dI_tl, dI_tt, dI_ni, dI_nb, dI_ns, dI_nl, dI_nt, Option.map_some, List.length_cons, List.length_nil, List.getElem?_cons_zero, List.getElem?_cons_succ, List.getElem?_nil, List.set_cons_zero, List.set_cons_succ, List.set_nil, List.map_cons, List.map_nil, List.cons_append, List.nil_append, List.append_nil, List.replicate, List.getD_cons_zero, List.getD_cons_succ, List.contains_nil, List.contains_cons, Nat.reduceBEq, Bool.or_false, Bool.false_or, Bool.or_self, Bool.or_true, Bool.true_or, List.isEmpty_nil, List.isEmpty_cons, decide_true, decide_false, if_true, if_false, Bool.false_eq_true, Bool.not_true, Bool.not_false, Bool.and_true, Bool.true_and, Bool.and_self, Bool.and_false, Bool.false_and, reduceIte, Nat.zero_add, Nat.reduceAdd, Nat.reduceSub, Nat.reduceLT, Nat.reduceLeDiff, Nat.reduceEqDiff, decide_eq_true_eq, eq_self, Option.some.injEq, reduceCtorEq, Nat.lt_irrefl, evSs_cons, callD, ioOf, nodupB, passD, blank, putBack, F_L_gcd, hg (a.natAbs : Int) (-b) (by omega) (by omega), Int.natAbs_natCast, Int.natAbs_neg, d2_fdiv g, lowI, frD, c]
    · rw [evSs_cons]; simp -implicitDefEqProofs only [evS, evT, evE, evP, evPs, evV, evA, evAnd, evOr, evI, Pv.a0, Pv.a1, Pv.v0, Pv.v1, opd, slotOf, satOp, Pv.two, Pv.one, ob_s, ob_n, sc_int, sc_bl, sc_str, sc_non, bd_ok, bd_exc, thenE_ok, thenE_exc, thenT_ok, thenT_exc, thenA_ok, thenI_ok, fl_nx, fl_ret, fl_exc, fl_bk, fl_ct, fl_nil, evSs_nil, asBl, asInt, un_non, un_bl, un_int, un_str, un_tup, un_lst, un_obj, un_un, fz, fzs, isSc, isScs, isFz, isFzs, isOwn, isOwns, dNeg, dT, tgA, setAll, okS, res, at2, it_tup, it_lst, chnD, lItems, tmps, cpyLoc, cpyTmp, ixTmp, ioPos, outFl, outsOf, fzs_ints, Pv.sto1, Pv.sto2, ownItems, at2_0, at2_1, at3_0, at3_1, at3_2, at4_0, at4_1, at4_2, at4_3, ix_20, ix_21, ix_40, ix_41, ix_42, ix_43, List.length_map, isFzs, d2_add, d2_sub, d2_lt, d2_le, d2_gt, d2_ge, d2_eq, d2_ne, d2_eqs, d2_eqb, d2_isn_non, d2_isn_int, d2_isn_bl, d2_isn_str, d2_isn_tup, d2_isn_lst, d2_notn_non, d2_notn_int, d2_notn_bl, d2_notn_str, d2_notn_tup, d2_notn_lst, d2_mod, d2_fdiv, Int.reduceToNat, Int.reducePow, Int.reduceEq, Int.reduceLT, Int.reduceLE, Int.reduceNeg, Int.reduceMul, Int.reduceAdd, Int.reduceSub, cst0, cst1, cst2, cst3, cst4, cst5, cst6, cst7, cst8, cst9, cst10, cst11, cst12, ne_eq, not_false_eq_true, not_true_eq_false, dF_gcd, dF_lenL, dF_lenT, dF_int, dF_intb, dF_abs, dF_min, dF_max, dI_ii, dI_ib, dI_is, dI_il, dI_it, dI_bi, dI_bb, dI_bs, dI_bl, dI_bt, dI_si, dI_sb, dI_ss, dI_sl, dI_st, dI_li, dI_lb, dI_ls, dI_ll, dI_lt, dI_ti, dI_tb, dI_ts, dI_tl, dI_tt, dI_ni, dI_nb, dI_ns, dI_nl, dI_nt, Option.map_some, List.length_cons, List.length_nil, List.getElem?_cons_zero, List.getElem?_cons_succ, List.getElem?_nil, List.set_cons_zero, List.set_cons_succ, List.set_nil, List.map_cons, List.map_nil, List.cons_append, List.nil_append, List.append_nil, List.replicate, List.getD_cons_zero, List.getD_cons_succ, List.contains_nil, List.contains_cons, Nat.reduceBEq, Bool.or_false, Bool.false_or, Bool.or_self, Bool.or_true, Bool.true_or, List.isEmpty_nil, List.isEmpty_cons, decide_true, decide_false, if_true, if_false, Bool.false_eq_true, Bool.not_true, Bool.not_false, Bool.and_true, Bool.true_and, Bool.and_self, Bool.and_false, Bool.false_and, reduceIte, Nat.zero_add, Nat.reduceAdd, Nat.reduceSub, Nat.reduceLT, Nat.reduceLeDiff, Nat.reduceEqDiff, decide_eq_true_eq, eq_self, Option.some.injEq, reduceCtorEq, Nat.lt_irrefl, c]
      rw [evSs_cons]; simp -implicitDefEqProofs only [evS, evT, evE, evP, evPs, evV, evA, evAnd, evOr, evI, Pv.a0, Pv.a1, Pv.v0, Pv.v1, opd, slotOf, satOp, Pv.two, Pv.one, ob_s, ob_n, sc_int, sc_bl, sc_str, sc_non, bd_ok, bd_exc, thenE_ok, thenE_exc, thenT_ok, thenT_exc, thenA_ok, thenI_ok, fl_nx, fl_ret, fl_exc, fl_bk, fl_ct, fl_nil, evSs_nil, asBl, asInt, un_non, un_bl, un_int, un_str, un_tup, un_lst, un_obj, un_un, fz, fzs, isSc, isScs, isFz, isFzs, isOwn, isOwns, dNeg, dT, tgA, setAll, okS, res, at2, it_tup, it_lst, chnD, lItems, tmps, cpyLoc, cpyTmp, ixTmp, ioPos, outFl, outsOf, fzs_ints, Pv.sto1, Pv.sto2, ownItems, at2_0, at2_1, at3_0, at3_1, at3_2, at4_0, at4_1, at4_2, at4_3, ix_20, ix_21, ix_40, ix_41, ix_42, ix_43, List.length_map, isFzs, d2_add, d2_sub, d2_lt, d2_le, d2_gt, d2_ge, d2_eq, d2_ne, d2_eqs, d2_eqb, d2_isn_non, d2_isn_int, d2_isn_bl, d2_isn_str, d2_isn_tup, d2_isn_lst, d2_notn_non, d2_notn_int, d2_notn_bl, d2_notn_str, d2_notn_tup, d2_notn_lst, d2_mod, d2_fdiv, Int.reduceToNat, Int.reducePow, Int.reduceEq, Int.reduceLT, Int.reduceLE, Int.reduceNeg, Int.reduceMul, Int.reduceAdd, Int.reduceSub, cst0, cst1, cst2, cst3, cst4, cst5, cst6, cst7, cst8, cst9, cst10, cst11, cst12, ne_eq, not_false_eq_true, not_true_eq_false, dF_gcd, dF_lenL, dF_lenT, dF_int, dF_intb, dF_abs, dF_min, dF_max, dI_ii, dI_ib, dI_is, dI_il, dI_it, dI_bi, dI_bb, dI_bs, dI_bl, dI_bt, dI_si, dI_sb, dI_ss, dI_sl, dI_st, dI_li, dI_lb, dI_ls, dI_ll, dI_lt, dI_ti, dI_tb, dI_ts, dI_tl, dI_tt, dI_ni, dI_nb, dI_ns, dI_nl, dI_nt, Option.map_some, List.length_cons, List.length_nil, List.getElem?_cons_zero, List.getElem?_cons_succ, List.getElem?_nil, List.set_cons_zero, List.set_cons_succ, List.set_nil, List.map_cons, List.map_nil, List.cons_append, List.nil_append, List.append_nil, List.replicate, List.getD_cons_zero, List.getD_cons_succ, List.contains_nil, List.contains_cons, Nat.reduceBEq, Bool.or_false, Bool.false_or, Bool.or_self, Bool.or_true, Bool.true_or, List.isEmpty_nil, List.isEmpty_cons, decide_true, decide_false, if_true, if_false, Bool.false_eq_true, Bool.not_true, Bool.not_false, Bool.and_true, Bool.true_and, Bool.and_self, Bool.and_false, Bool.false_and, reduceIte, Nat.zero_add, Nat.reduceAdd, Nat.reduceSub, Nat.reduceLT, Nat.reduceLeDiff, Nat.reduceEqDiff, decide_eq_true_eq, eq_self, Option.some.injEq, reduceCtorEq, Nat.lt_irrefl, ab, callD, ioOf, nodupB, passD, blank, putBack, F_L_gcd, hg (a.natAbs : Int) b (by omega) (by omega), Int.natAbs_natCast]
      simp -implicitDefEqProofs only [evS, evT, evE, evP, evPs, evV, evA, evAnd, evOr, evI, Pv.a0, Pv.a1, Pv.v0, Pv.v1, opd, slotOf, satOp, Pv.two, Pv.one, ob_s, ob_n, sc_int, sc_bl, sc_str, sc_non, bd_ok, bd_exc, thenE_ok, thenE_exc, thenT_ok, thenT_exc, thenA_ok, thenI_ok, fl_nx, fl_ret, fl_exc, fl_bk, fl_ct, fl_nil, evSs_nil, asBl, asInt, un_non, un_bl, un_int, un_str, un_tup, un_lst, un_obj, un_un, fz, fzs, isSc, isScs, isFz, isFzs, isOwn, isOwns, dNeg, dT, tgA, setAll, okS, res, at2, it_tup, it_lst, chnD, lItems, tmps, cpyLoc, cpyTmp, ixTmp, ioPos, outFl, outsOf, fzs_ints, Pv.sto1, Pv.sto2, ownItems, at2_0, at2_1, at3_0, at3_1, at3_2, at4_0, at4_1, at4_2, at4_3, ix_20, ix_21, ix_40, ix_41, ix_42, ix_43, List.length_map, isFzs, d2_add, d2_sub, d2_lt, d2_le, d2_gt, d2_ge, d2_eq, d2_ne, d2_eqs, d2_eqb, d2_isn_non, d2_isn_int, d2_isn_bl, d2_isn_str, d2_isn_tup, d2_isn_lst, d2_notn_non, d2_notn_int, d2_notn_bl, d2_notn_str, d2_notn_tup, d2_notn_lst, d2_mod, d2_fdiv, Int.reduceToNat, Int.reducePow, Int.reduceEq, Int.reduceLT, Int.reduceLE, Int.reduceNeg, Int.reduceMul, Int.reduceAdd, Int.reduceSub, cst0, cst1, cst2, cst3, cst4, cst5, cst6, cst7, cst8, cst9, cst10, cst11, cst12, ne_eq, not_false_eq_true, not_true_eq_false, dF_gcd, dF_lenL, dF_lenT, dF_int, dF_intb, dF_abs, dF_min, dF_max, dI_ii, dI_ib, dI_is, dI_il, dI_it, dI_bi, dI_bb, dI_bs, dI_bl, dI_bt, dI_si, dI_sb, dI_ss, dI_sl, dI_st, dI_li, dI_lb, dI_ls, dI_ll, dI_lt, dI_ti, dI_tb, dI_ts, dI_tl, dI_tt, dI_ni, dI_nb, dI_ns, dI_nl, dI_nt, Option.map_some, List.length_cons, List.length_nil, List.getElem?_cons_zero, List.getElem?_cons_succ, List.getElem?_nil, List.set_cons_zero, List.set_cons_succ, List.set_nil, List.map_cons, List.map_nil, List.cons_append, List.nil_append, List.append_nil, List.replicate, List.getD_cons_zero, List.getD_cons_succ, List.contains_nil, List.contains_cons, Nat.reduceBEq, Bool.or_false, Bool.false_or, Bool.or_self, Bool.or_true, Bool.true_or, List.isEmpty_nil, List.isEmpty_cons, decide_true, decide_false, if_true, if_false, Bool.false_eq_true, Bool.not_true, Bool.not_false, Bool.and_true, Bool.true_and, Bool.and_self, Bool.and_false, Bool.false_and, reduceIte, Nat.zero_add, Nat.reduceAdd, Nat.reduceSub, Nat.reduceLT, Nat.reduceLeDiff, Nat.reduceEqDiff, decide_eq_true_eq, eq_self, Option.some.injEq, reduceCtorEq, Nat.lt_irrefl, evSs_cons, d2_fdiv g, lowI, frD, c]
/-! ### the stream of the script -/
def b_L_start : Ss := .cons (.ret (.lst (.cons (.cpy (.var 0)) (.cons (.con (.int 0)) (.cons (.con (.int 0)) (.cons (.con (.int 1234577)) (.nil))))))) (.nil)
def n_L_start : Nat := 1
def b_L_pull : Ss := .cons (.ite (.land (.cons (.pk (.op2 .eq (.ix (.var 0) (.con (.int 2))) (.con (.int 0)))) (.cons (.pk (.op2 .lt (.ix (.var 0) (.con (.int 1))) (.fnc .len (.cons (.ix (.var 0) (.con (.int 0))) (.nil))))) (.nil)))) (.cons (.asg (.nm 2) (.pk (.ix (.ix (.var 0) (.con (.int 0))) (.ix (.var 0) (.con (.int 1)))))) (.cons (.sto1 0 (.con (.int 1)) (.pk (.op2 .add (.ix (.var 0) (.con (.int 1))) (.con (.int 1))))) (.cons (.ite (.pk (.op2 .ge (.var 2) (.op2 .pow (.con (.int 10)) (.con (.int 18))))) (.cons (.sto1 0 (.con (.int 2)) (.var 2)) (.nil)) (.cons (.sto1 0 (.con (.int 3)) (.pk (.op2 .mod (.fnc .int (.cons (.op2 .add (.op2 .add (.op2 .mul (.ix (.var 0) (.con (.int 3))) (.con (.int 48271))) (.op2 .mod (.fnc .int (.cons (.var 2) (.nil))) (.con (.int 2147483629)))) (.con (.int 1))) (.nil))) (.con (.int 2147483647))))) (.nil))) (.nil)))) (.nil)) (.cons (.ite (.pk (.op2 .gt (.ix (.var 0) (.con (.int 2))) (.con (.int 0)))) (.cons (.asg (.nm 3) (.pk (.op2 .mod (.fnc .int (.cons (.ix (.var 0) (.con (.int 2))) (.nil))) (.var 1)))) (.cons (.sto1 0 (.con (.int 2)) (.pk (.op2 .fdiv (.ix (.var 0) (.con (.int 2))) (.var 1)))) (.cons (.ret (.var 3)) (.nil)))) (.nil)) (.cons (.sto1 0 (.con (.int 3)) (.pk (.op2 .mod (.fnc .int (.cons (.op2 .add (.op2 .mul (.ix (.var 0) (.con (.int 3))) (.con (.int 69621))) (.con (.int 11))) (.nil))) (.con (.int 2147483647))))) (.cons (.asg (.nm 3) (.pk (.op2 .mod (.fnc .int (.cons (.op2 .add (.op2 .mul (.ix (.var 0) (.con (.int 3))) (.con (.int 40692))) (.op2 .fdiv (.ix (.var 0) (.con (.int 3))) (.con (.int 1009)))) (.nil))) (.con (.int 2147483399))))) (.cons (.ret (.pk (.op2 .mod (.fnc .int (.cons (.op2 .fdiv (.var 3) (.con (.int 16))) (.nil))) (.var 1)))) (.nil)))))
def n_L_pull : Nat := 4
def stD (o : Bool) (cs : List Int) (p q r : Int) : D := .lst true [.lst o (cs.map D.int), .int p, .int q, .int r]
/-- one cell, if one is asked for -/
def intake (cs : List Int) (p q r : Int) : Int × Int × Int := if q = 0 ∧ p < cs.length then
    (match cs[p.toNat]? with
      | some c => if 1000000000000000000 ≤ c then (p + 1, c, r) else (p + 1, q, ((r * 48271 + c.fmod 2147483629 + 1).fmod 2147483647))
      | none => (p, q, r))
  else (p, q, r)
def pullV (many : Int) : Int × Int × Int → Int × (Int × Int × Int)
  | (p, q, r) => if 0 < q then (q.fmod many, (p, q.fdiv many, r)) else
    let r' := (r * 69621 + 11).fmod 2147483647
    (((r' * 40692 + r'.fdiv 1009).fmod 2147483399 |>.fdiv 16).fmod many, (p, q, r'))
def pullF (cs : List Int) (p q r many : Int) : Int × (Int × Int × Int) := pullV many (intake cs p q r)
def m_pull : List D → Option Out
  | [.lst true [.lst o xs, .int p, .int q, .int r], .int many] => match intsOf xs with
    | some cs => if 0 ≤ p ∧ 0 ≤ q ∧ 0 ≤ r ∧ r < 2147483647 ∧ 0 < many then some (.ret (.int (pullF cs p q r many).1) [stD o cs (pullF cs p q r many).2.1 (pullF cs p q r many).2.2.1 (pullF cs p q r many).2.2.2]) else none
    | none => none
  | _ => none
def F_L_pull : Fn := ⟨[true, false], m_pull⟩
theorem intsOf_some : ∀ {xs : List D} {cs : List Int}, intsOf xs = some cs → xs = cs.map D.int
  | [], cs, h => by cases h; rfl
  | d :: ds, cs, h => by
    cases d <;> first | (simp [intsOf] at h; done) | skip
    rename_i i
    simp only [intsOf] at h
    obtain ⟨l, e, rfl⟩ := Option.map_eq_some_iff.mp h
    rw [intsOf_some e]; rfl
theorem pull_one {o : Bool} {cs : List Int} {p q r many : Int} (hp : 0 ≤ p) (hq : 0 ≤ q) (hr : 0 ≤ r) (hr2 : r < 2147483647) : ∃ X, evS 0 [0] (match b_L_pull with
    | .cons s _ => s
    | .nil => .pass) [stD o cs p q r, .int many, .un, .un] = some (.nx [stD o cs (intake cs p q r).1 (intake cs p q r).2.1 (intake cs p q r).2.2, .int many, X, .un]) := by
  unfold b_L_pull stD
  have pw : powOk 10 18 = true := by decide
  by_cases hA : q = 0
  · by_cases hB : p < cs.length
    · have hl : p.toNat < cs.length := by omega
      have ec := List.getElem?_eq_getElem hl
      generalize cs[p.toNat] = c at ec
      have ei : intake cs p q r = if 1000000000000000000 ≤ c then (p + 1, c, r) else (p + 1, q, ((r * 48271 + c.fmod 2147483629 + 1).fmod 2147483647)) := by
        unfold intake
        rw [if_pos ⟨hA, hB⟩, ec]
      refine ⟨.int c, ?_⟩
      rw [ei]
      have mm : mulOk r 48271 = true := mul_of 31 16 (by omega) (by decide) (by decide) (by decide)
      by_cases hC : (1000000000000000000 : Int) ≤ c
      · simp -implicitDefEqProofs only [evS, evT, evE, evP, evPs, evV, evA, evAnd, evOr, evI, Pv.a0, Pv.a1, Pv.v0, Pv.v1, opd, slotOf, satOp, Pv.two, Pv.one, ob_s, ob_n, sc_int, sc_bl, sc_str, sc_non, bd_ok, bd_exc, thenE_ok, thenE_exc, thenT_ok, thenT_exc, thenA_ok, thenI_ok, fl_nx, fl_ret, fl_exc, fl_bk, fl_ct, fl_nil, evSs_nil, asBl, asInt, un_non, un_bl, un_int, un_str, un_tup, un_lst, un_obj, un_un, fz, fzs, isSc, isScs, isFz, isFzs, isOwn, isOwns, dNeg, dT, tgA, setAll, okS, res, at2, it_tup, it_lst, chnD, lItems, tmps, cpyLoc, cpyTmp, ixTmp, ioPos, outFl, outsOf, fzs_ints, Pv.sto1, Pv.sto2, ownItems, at2_0, at2_1, at3_0, at3_1, at3_2, at4_0, at4_1, at4_2, at4_3, ix_20, ix_21, ix_40, ix_41, ix_42, ix_43, List.length_map, isFzs, d2_add, d2_sub, d2_lt, d2_le, d2_gt, d2_ge, d2_eq, d2_ne, d2_eqs, d2_eqb, d2_isn_non, d2_isn_int, d2_isn_bl, d2_isn_str, d2_isn_tup, d2_isn_lst, d2_notn_non, d2_notn_int, d2_notn_bl, d2_notn_str, d2_notn_tup, d2_notn_lst, d2_mod, d2_fdiv, Int.reduceToNat, Int.reducePow, Int.reduceEq, Int.reduceLT, Int.reduceLE, Int.reduceNeg, Int.reduceMul, Int.reduceAdd, Int.reduceSub, cst0, cst1, cst2, cst3, cst4, cst5, cst6, cst7, cst8, cst9, cst10, cst11, cst12, ne_eq, not_false_eq_true, not_true_eq_false, dF_gcd, dF_lenL, dF_lenT, dF_int, dF_intb, dF_abs, dF_min, dF_max, dI_ii, dI_ib, dI_is, dI_il, dI_it, dI_bi, dI_bb, dI_bs, dI_bl, dI_bt, dI_si, dI_sb, dI_ss, dI_sl, dI_st, dI_li, dI_lb, dI_ls, dI_ll, dI_lt, dI_ti, dI_tb, dI_ts, dI_tl, dI_tt, dI_ni, dI_nb, dI_ns, dI_nl, dI_nt, Option.map_some, List.length_cons, List.length_nil, List.getElem?_cons_zero, List.getElem?_cons_succ, List.getElem?_nil, List.set_cons_zero, List.set_cons_succ, List.set_nil, List.map_cons, List.map_nil, List.cons_append, List.nil_append, List.append_nil, List.replicate, List.getD_cons_zero, List.getD_cons_succ, List.contains_nil, List.contains_cons, Nat.reduceBEq, Bool.or_false, Bool.false_or, Bool.or_self, Bool.or_true, Bool.true_or, List.isEmpty_nil, List.isEmpty_cons, decide_true, decide_false, if_true, if_false, Bool.false_eq_true, Bool.not_true, Bool.not_false, Bool.and_true, Bool.true_and, Bool.and_self, Bool.and_false, Bool.false_and, reduceIte, Nat.zero_add, Nat.reduceAdd, Nat.reduceSub, Nat.reduceLT, Nat.reduceLeDiff, Nat.reduceEqDiff, decide_eq_true_eq, eq_self, Option.some.injEq, reduceCtorEq, Nat.lt_irrefl, hA, hB, at_ints hp ec, d2_pow pw, evSs_cons, hC]
      · simp -implicitDefEqProofs only [evS, evT, evE, evP, evPs, evV, evA, evAnd, evOr, evI, Pv.a0, Pv.a1, Pv.v0, Pv.v1, opd, slotOf, satOp, Pv.two, Pv.one, ob_s, ob_n, sc_int, sc_bl, sc_str, sc_non, bd_ok, bd_exc, thenE_ok, thenE_exc, thenT_ok, thenT_exc, thenA_ok, thenI_ok, fl_nx, fl_ret, fl_exc, fl_bk, fl_ct, fl_nil, evSs_nil, asBl, asInt, un_non, un_bl, un_int, un_str, un_tup, un_lst, un_obj, un_un, fz, fzs, isSc, isScs, isFz, isFzs, isOwn, isOwns, dNeg, dT, tgA, setAll, okS, res, at2, it_tup, it_lst, chnD, lItems, tmps, cpyLoc, cpyTmp, ixTmp, ioPos, outFl, outsOf, fzs_ints, Pv.sto1, Pv.sto2, ownItems, at2_0, at2_1, at3_0, at3_1, at3_2, at4_0, at4_1, at4_2, at4_3, ix_20, ix_21, ix_40, ix_41, ix_42, ix_43, List.length_map, isFzs, d2_add, d2_sub, d2_lt, d2_le, d2_gt, d2_ge, d2_eq, d2_ne, d2_eqs, d2_eqb, d2_isn_non, d2_isn_int, d2_isn_bl, d2_isn_str, d2_isn_tup, d2_isn_lst, d2_notn_non, d2_notn_int, d2_notn_bl, d2_notn_str, d2_notn_tup, d2_notn_lst, d2_mod, d2_fdiv, Int.reduceToNat, Int.reducePow, Int.reduceEq, Int.reduceLT, Int.reduceLE, Int.reduceNeg, Int.reduceMul, Int.reduceAdd, Int.reduceSub, cst0, cst1, cst2, cst3, cst4, cst5, cst6, cst7, cst8, cst9, cst10, cst11, cst12, ne_eq, not_false_eq_true, not_true_eq_false, dF_gcd, dF_lenL, dF_lenT, dF_int, dF_intb, dF_abs, dF_min, dF_max, dI_ii, dI_ib, dI_is, dI_il, dI_it, dI_bi, dI_bb, dI_bs, dI_bl, dI_bt, dI_si, dI_sb, dI_ss, dI_sl, dI_st, dI_li, dI_lb, dI_ls, dI_ll, dI_lt, dI_ti, dI_tb, dI_ts, dI_tl, dI_tt, dI_ni, dI_nb, dI_ns, dI_nl, dI_nt, Option.map_some, List.length_cons, List.length_nil, List.getElem?_cons_zero, List.getElem?_cons_succ, List.getElem?_nil, List.set_cons_zero, List.set_cons_succ, List.set_nil, List.map_cons, List.map_nil, List.cons_append, List.nil_append, List.append_nil, List.replicate, List.getD_cons_zero, List.getD_cons_succ, List.contains_nil, List.contains_cons, Nat.reduceBEq, Bool.or_false, Bool.false_or, Bool.or_self, Bool.or_true, Bool.true_or, List.isEmpty_nil, List.isEmpty_cons, decide_true, decide_false, if_true, if_false, Bool.false_eq_true, Bool.not_true, Bool.not_false, Bool.and_true, Bool.true_and, Bool.and_self, Bool.and_false, Bool.false_and, reduceIte, Nat.zero_add, Nat.reduceAdd, Nat.reduceSub, Nat.reduceLT, Nat.reduceLeDiff, Nat.reduceEqDiff, decide_eq_true_eq, eq_self, Option.some.injEq, reduceCtorEq, Nat.lt_irrefl, hA, hB, at_ints hp ec, d2_pow pw, evSs_cons, hC, d2_mul mm]
    · have ei : intake cs p q r = (p, q, r) := if_neg fun z => hB z.2
      refine ⟨.un, ?_⟩
      rw [ei]
      simp -implicitDefEqProofs only [evS, evT, evE, evP, evPs, evV, evA, evAnd, evOr, evI, Pv.a0, Pv.a1, Pv.v0, Pv.v1, opd, slotOf, satOp, Pv.two, Pv.one, ob_s, ob_n, sc_int, sc_bl, sc_str, sc_non, bd_ok, bd_exc, thenE_ok, thenE_exc, thenT_ok, thenT_exc, thenA_ok, thenI_ok, fl_nx, fl_ret, fl_exc, fl_bk, fl_ct, fl_nil, evSs_nil, asBl, asInt, un_non, un_bl, un_int, un_str, un_tup, un_lst, un_obj, un_un, fz, fzs, isSc, isScs, isFz, isFzs, isOwn, isOwns, dNeg, dT, tgA, setAll, okS, res, at2, it_tup, it_lst, chnD, lItems, tmps, cpyLoc, cpyTmp, ixTmp, ioPos, outFl, outsOf, fzs_ints, Pv.sto1, Pv.sto2, ownItems, at2_0, at2_1, at3_0, at3_1, at3_2, at4_0, at4_1, at4_2, at4_3, ix_20, ix_21, ix_40, ix_41, ix_42, ix_43, List.length_map, isFzs, d2_add, d2_sub, d2_lt, d2_le, d2_gt, d2_ge, d2_eq, d2_ne, d2_eqs, d2_eqb, d2_isn_non, d2_isn_int, d2_isn_bl, d2_isn_str, d2_isn_tup, d2_isn_lst, d2_notn_non, d2_notn_int, d2_notn_bl, d2_notn_str, d2_notn_tup, d2_notn_lst, d2_mod, d2_fdiv, Int.reduceToNat, Int.reducePow, Int.reduceEq, Int.reduceLT, Int.reduceLE, Int.reduceNeg, Int.reduceMul, Int.reduceAdd, Int.reduceSub, cst0, cst1, cst2, cst3, cst4, cst5, cst6, cst7, cst8, cst9, cst10, cst11, cst12, ne_eq, not_false_eq_true, not_true_eq_false, dF_gcd, dF_lenL, dF_lenT, dF_int, dF_intb, dF_abs, dF_min, dF_max, dI_ii, dI_ib, dI_is, dI_il, dI_it, dI_bi, dI_bb, dI_bs, dI_bl, dI_bt, dI_si, dI_sb, dI_ss, dI_sl, dI_st, dI_li, dI_lb, dI_ls, dI_ll, dI_lt, dI_ti, dI_tb, dI_ts, dI_tl, dI_tt, dI_ni, dI_nb, dI_ns, dI_nl, dI_nt, Option.map_some, List.length_cons, List.length_nil, List.getElem?_cons_zero, List.getElem?_cons_succ, List.getElem?_nil, List.set_cons_zero, List.set_cons_succ, List.set_nil, List.map_cons, List.map_nil, List.cons_append, List.nil_append, List.append_nil, List.replicate, List.getD_cons_zero, List.getD_cons_succ, List.contains_nil, List.contains_cons, Nat.reduceBEq, Bool.or_false, Bool.false_or, Bool.or_self, Bool.or_true, Bool.true_or, List.isEmpty_nil, List.isEmpty_cons, decide_true, decide_false, if_true, if_false, Bool.false_eq_true, Bool.not_true, Bool.not_false, Bool.and_true, Bool.true_and, Bool.and_self, Bool.and_false, Bool.false_and, reduceIte, Nat.zero_add, Nat.reduceAdd, Nat.reduceSub, Nat.reduceLT, Nat.reduceLeDiff, Nat.reduceEqDiff, decide_eq_true_eq, eq_self, Option.some.injEq, reduceCtorEq, Nat.lt_irrefl, hA, hB]
  · have ei : intake cs p q r = (p, q, r) := if_neg fun z => hA z.1
    refine ⟨.un, ?_⟩
    rw [ei]
    simp -implicitDefEqProofs only [evS, evT, evE, evP, evPs, evV, evA, evAnd, evOr, evI, Pv.a0, Pv.a1, Pv.v0, Pv.v1, opd, slotOf, satOp, Pv.two, Pv.one, ob_s, ob_n, sc_int, sc_bl, sc_str, sc_non, bd_ok, bd_exc, thenE_ok, thenE_exc, thenT_ok, thenT_exc, thenA_ok, thenI_ok, fl_nx, fl_ret, fl_exc, fl_bk, fl_ct, fl_nil, evSs_nil, asBl, asInt, un_non, un_bl, un_int, un_str, un_tup, un_lst, un_obj, un_un, fz, fzs, isSc, isScs, isFz, isFzs, isOwn, isOwns, dNeg, dT, tgA, setAll, okS, res, at2, it_tup, it_lst, chnD, lItems, tmps, cpyLoc, cpyTmp, ixTmp, ioPos, outFl, outsOf, fzs_ints, Pv.sto1, Pv.sto2, ownItems, at2_0, at2_1, at3_0, at3_1, at3_2, at4_0, at4_1, at4_2, at4_3, ix_20, ix_21, ix_40, ix_41, ix_42, ix_43, List.length_map, isFzs, d2_add, d2_sub, d2_lt, d2_le, d2_gt, d2_ge, d2_eq, d2_ne, d2_eqs, d2_eqb, d2_isn_non, d2_isn_int, d2_isn_bl, d2_isn_str, d2_isn_tup, d2_isn_lst, d2_notn_non, d2_notn_int, d2_notn_bl, d2_notn_str, d2_notn_tup, d2_notn_lst, d2_mod, d2_fdiv, Int.reduceToNat, Int.reducePow, Int.reduceEq, Int.reduceLT, Int.reduceLE, Int.reduceNeg, Int.reduceMul, Int.reduceAdd, Int.reduceSub, cst0, cst1, cst2, cst3, cst4, cst5, cst6, cst7, cst8, cst9, cst10, cst11, cst12, ne_eq, not_false_eq_true, not_true_eq_false, dF_gcd, dF_lenL, dF_lenT, dF_int, dF_intb, dF_abs, dF_min, dF_max, dI_ii, dI_ib, dI_is, dI_il, dI_it, dI_bi, dI_bb, dI_bs, dI_bl, dI_bt, dI_si, dI_sb, dI_ss, dI_sl, dI_st, dI_li, dI_lb, dI_ls, dI_ll, dI_lt, dI_ti, dI_tb, dI_ts, dI_tl, dI_tt, dI_ni, dI_nb, dI_ns, dI_nl, dI_nt, Option.map_some, List.length_cons, List.length_nil, List.getElem?_cons_zero, List.getElem?_cons_succ, List.getElem?_nil, List.set_cons_zero, List.set_cons_succ, List.set_nil, List.map_cons, List.map_nil, List.cons_append, List.nil_append, List.append_nil, List.replicate, List.getD_cons_zero, List.getD_cons_succ, List.contains_nil, List.contains_cons, Nat.reduceBEq, Bool.or_false, Bool.false_or, Bool.or_self, Bool.or_true, Bool.true_or, List.isEmpty_nil, List.isEmpty_cons, decide_true, decide_false, if_true, if_false, Bool.false_eq_true, Bool.not_true, Bool.not_false, Bool.and_true, Bool.true_and, Bool.and_self, Bool.and_false, Bool.false_and, reduceIte, Nat.zero_add, Nat.reduceAdd, Nat.reduceSub, Nat.reduceLT, Nat.reduceLeDiff, Nat.reduceEqDiff, decide_eq_true_eq, eq_self, Option.some.injEq, reduceCtorEq, Nat.lt_irrefl, hA]
theorem intake_ok {cs : List Int} {p q r : Int} (hp : 0 ≤ p) (hq : 0 ≤ q) (hr : 0 ≤ r) (hr2 : r < 2147483647) : 0 ≤ (intake cs p q r).1 ∧ 0 ≤ (intake cs p q r).2.1 ∧ 0 ≤ (intake cs p q r).2.2 ∧ (intake cs p q r).2.2 < 2147483647 := by
  unfold intake
  split
  · split
    · rename_i c _
      split
      · exact ⟨by dsimp only; omega, by dsimp only; omega, hr, hr2⟩
      · refine ⟨by dsimp only; omega, hq, ?_, ?_⟩
        · exact Int.fmod_nonneg_of_pos _ (by decide)
        · exact Int.fmod_lt_of_pos _ (by decide)
    · exact ⟨hp, hq, hr, hr2⟩
  · exact ⟨hp, hq, hr, hr2⟩
theorem hm_L_pull : ∀ ds o, m_pull ds = some o → ∃ n, evFn n [true, false] 4 b_L_pull ds = some o := by
  intro ds o h
  refine ⟨0, ?_⟩
  unfold m_pull at h
  split at h
  case h_2 => cases h
  rename_i o' xs p q r many
  split at h
  case h_2 => cases h
  rename_i cs hcs
  have hx := intsOf_some hcs
  subst hx
  split at h
  case isFalse => cases h
  rename_i hc
  obtain ⟨hp, hq, hr, hr2, hm⟩ := hc
  cases h
  obtain ⟨X, h1⟩ := pull_one (o := o') (cs := cs) (many := many) hp hq hr hr2
  obtain ⟨k1, k2, k3, k4⟩ := intake_ok (cs := cs) hp hq hr hr2
  unfold pullF
  generalize intake cs p q r = t at h1 k1 k2 k3 k4
  obtain ⟨p', q', r'⟩ := t
  dsimp only at h1 k1 k2 k3 k4
  unfold stD at h1
  have hm0 : many ≠ 0 := by omega
  unfold evFn b_L_pull stD
  unfold b_L_pull at h1
  dsimp only at h1
  simp -implicitDefEqProofs only [evS, evT, evE, evP, evPs, evV, evA, evAnd, evOr, evI, Pv.a0, Pv.a1, Pv.v0, Pv.v1, opd, slotOf, satOp, Pv.two, Pv.one, ob_s, ob_n, sc_int, sc_bl, sc_str, sc_non, bd_ok, bd_exc, thenE_ok, thenE_exc, thenT_ok, thenT_exc, thenA_ok, thenI_ok, fl_nx, fl_ret, fl_exc, fl_bk, fl_ct, fl_nil, evSs_nil, asBl, asInt, un_non, un_bl, un_int, un_str, un_tup, un_lst, un_obj, un_un, fz, fzs, isSc, isScs, isFz, isFzs, isOwn, isOwns, dNeg, dT, tgA, setAll, okS, res, at2, it_tup, it_lst, chnD, lItems, tmps, cpyLoc, cpyTmp, ixTmp, ioPos, outFl, outsOf, fzs_ints, Pv.sto1, Pv.sto2, ownItems, at2_0, at2_1, at3_0, at3_1, at3_2, at4_0, at4_1, at4_2, at4_3, ix_20, ix_21, ix_40, ix_41, ix_42, ix_43, List.length_map, isFzs, d2_add, d2_sub, d2_lt, d2_le, d2_gt, d2_ge, d2_eq, d2_ne, d2_eqs, d2_eqb, d2_isn_non, d2_isn_int, d2_isn_bl, d2_isn_str, d2_isn_tup, d2_isn_lst, d2_notn_non, d2_notn_int, d2_notn_bl, d2_notn_str, d2_notn_tup, d2_notn_lst, d2_mod, d2_fdiv, Int.reduceToNat, Int.reducePow, Int.reduceEq, Int.reduceLT, Int.reduceLE, Int.reduceNeg, Int.reduceMul, Int.reduceAdd, Int.reduceSub, cst0, cst1, cst2, cst3, cst4, cst5, cst6, cst7, cst8, cst9, cst10, cst11, cst12, ne_eq, not_false_eq_true, not_true_eq_false, dF_gcd, dF_lenL, dF_lenT, dF_int, dF_intb, dF_abs, dF_min, dF_max, dI_ii, dI_ib, dI_is, dI_il, dI_it, dI_bi, dI_bb, dI_bs, dI_bl, dI_bt, dI_si, dI_sb, dI_ss, dI_sl, dI_st, dI_li, dI_lb, dI_ls, dI_ll, dI_lt, dI_ti, dI_tb, dI_ts, dI_tl, dI_tt, dI_ni, dI_nb, dI_ns, dI_nl, dI_nt, Option.map_some, List.length_cons, List.length_nil, List.getElem?_cons_zero, List.getElem?_cons_succ, List.getElem?_nil, List.set_cons_zero, List.set_cons_succ, List.set_nil, List.map_cons, List.map_nil, List.cons_append, List.nil_append, List.append_nil, List.replicate, List.getD_cons_zero, List.getD_cons_succ, List.contains_nil, List.contains_cons, Nat.reduceBEq, Bool.or_false, Bool.false_or, Bool.or_self, Bool.or_true, Bool.true_or, List.isEmpty_nil, List.isEmpty_cons, decide_true, decide_false, if_true, if_false, Bool.false_eq_true, Bool.not_true, Bool.not_false, Bool.and_true, Bool.true_and, Bool.and_self, Bool.and_false, Bool.false_and, reduceIte, Nat.zero_add, Nat.reduceAdd, Nat.reduceSub, Nat.reduceLT, Nat.reduceLeDiff, Nat.reduceEqDiff, decide_eq_true_eq, eq_self, Option.some.injEq, reduceCtorEq, Nat.lt_irrefl]
  rw [evSs_cons, h1]
  have m1 : mulOk r' 69621 = true := mul_of 31 17 (by omega) (by decide) (by decide) (by decide)
  have m2 : mulOk ((r' * 69621 + 11).fmod 2147483647) 40692 = true := mul_of 31 16 (by
    have a1 := Int.fmod_nonneg_of_pos (r' * 69621 + 11) (b := 2147483647) (by decide)
    have a2 := Int.fmod_lt_of_pos (r' * 69621 + 11) (b := 2147483647) (by decide)
    omega) (by decide) (by decide) (by decide)
  by_cases hQ : 0 < q'
  · simp -implicitDefEqProofs only [evS, evT, evE, evP, evPs, evV, evA, evAnd, evOr, evI, Pv.a0, Pv.a1, Pv.v0, Pv.v1, opd, slotOf, satOp, Pv.two, Pv.one, ob_s, ob_n, sc_int, sc_bl, sc_str, sc_non, bd_ok, bd_exc, thenE_ok, thenE_exc, thenT_ok, thenT_exc, thenA_ok, thenI_ok, fl_nx, fl_ret, fl_exc, fl_bk, fl_ct, fl_nil, evSs_nil, asBl, asInt, un_non, un_bl, un_int, un_str, un_tup, un_lst, un_obj, un_un, fz, fzs, isSc, isScs, isFz, isFzs, isOwn, isOwns, dNeg, dT, tgA, setAll, okS, res, at2, it_tup, it_lst, chnD, lItems, tmps, cpyLoc, cpyTmp, ixTmp, ioPos, outFl, outsOf, fzs_ints, Pv.sto1, Pv.sto2, ownItems, at2_0, at2_1, at3_0, at3_1, at3_2, at4_0, at4_1, at4_2, at4_3, ix_20, ix_21, ix_40, ix_41, ix_42, ix_43, List.length_map, isFzs, d2_add, d2_sub, d2_lt, d2_le, d2_gt, d2_ge, d2_eq, d2_ne, d2_eqs, d2_eqb, d2_isn_non, d2_isn_int, d2_isn_bl, d2_isn_str, d2_isn_tup, d2_isn_lst, d2_notn_non, d2_notn_int, d2_notn_bl, d2_notn_str, d2_notn_tup, d2_notn_lst, d2_mod, d2_fdiv, Int.reduceToNat, Int.reducePow, Int.reduceEq, Int.reduceLT, Int.reduceLE, Int.reduceNeg, Int.reduceMul, Int.reduceAdd, Int.reduceSub, cst0, cst1, cst2, cst3, cst4, cst5, cst6, cst7, cst8, cst9, cst10, cst11, cst12, ne_eq, not_false_eq_true, not_true_eq_false, dF_gcd, dF_lenL, dF_lenT, dF_int, dF_intb, dF_abs, dF_min, dF_max, dI_ii, dI_ib, dI_is, dI_il, dI_it, dI_bi, dI_bb, dI_bs, dI_bl, dI_bt, dI_si, dI_sb, dI_ss, dI_sl, dI_st, dI_li, dI_lb, dI_ls, dI_ll, dI_lt, dI_ti, dI_tb, dI_ts, dI_tl, dI_tt, dI_ni, dI_nb, dI_ns, dI_nl, dI_nt, Option.map_some, List.length_cons, List.length_nil, List.getElem?_cons_zero, List.getElem?_cons_succ, List.getElem?_nil, List.set_cons_zero, List.set_cons_succ, List.set_nil, List.map_cons, List.map_nil, List.cons_append, List.nil_append, List.append_nil, List.replicate, List.getD_cons_zero, List.getD_cons_succ, List.contains_nil, List.contains_cons, Nat.reduceBEq, Bool.or_false, Bool.false_or, Bool.or_self, Bool.or_true, Bool.true_or, List.isEmpty_nil, List.isEmpty_cons, decide_true, decide_false, if_true, if_false, Bool.false_eq_true, Bool.not_true, Bool.not_false, Bool.and_true, Bool.true_and, Bool.and_self, Bool.and_false, Bool.false_and, reduceIte, Nat.zero_add, Nat.reduceAdd, Nat.reduceSub, Nat.reduceLT, Nat.reduceLeDiff, Nat.reduceEqDiff, decide_eq_true_eq, eq_self, Option.some.injEq, reduceCtorEq, Nat.lt_irrefl, evSs_cons, hQ, d2_mod hm0, d2_fdiv hm0, pullV]
  · simp -implicitDefEqProofs only [evS, evT, evE, evP, evPs, evV, evA, evAnd, evOr, evI, Pv.a0, Pv.a1, Pv.v0, Pv.v1, opd, slotOf, satOp, Pv.two, Pv.one, ob_s, ob_n, sc_int, sc_bl, sc_str, sc_non, bd_ok, bd_exc, thenE_ok, thenE_exc, thenT_ok, thenT_exc, thenA_ok, thenI_ok, fl_nx, fl_ret, fl_exc, fl_bk, fl_ct, fl_nil, evSs_nil, asBl, asInt, un_non, un_bl, un_int, un_str, un_tup, un_lst, un_obj, un_un, fz, fzs, isSc, isScs, isFz, isFzs, isOwn, isOwns, dNeg, dT, tgA, setAll, okS, res, at2, it_tup, it_lst, chnD, lItems, tmps, cpyLoc, cpyTmp, ixTmp, ioPos, outFl, outsOf, fzs_ints, Pv.sto1, Pv.sto2, ownItems, at2_0, at2_1, at3_0, at3_1, at3_2, at4_0, at4_1, at4_2, at4_3, ix_20, ix_21, ix_40, ix_41, ix_42, ix_43, List.length_map, isFzs, d2_add, d2_sub, d2_lt, d2_le, d2_gt, d2_ge, d2_eq, d2_ne, d2_eqs, d2_eqb, d2_isn_non, d2_isn_int, d2_isn_bl, d2_isn_str, d2_isn_tup, d2_isn_lst, d2_notn_non, d2_notn_int, d2_notn_bl, d2_notn_str, d2_notn_tup, d2_notn_lst, d2_mod, d2_fdiv, Int.reduceToNat, Int.reducePow, Int.reduceEq, Int.reduceLT, Int.reduceLE, Int.reduceNeg, Int.reduceMul, Int.reduceAdd, Int.reduceSub, cst0, cst1, cst2, cst3, cst4, cst5, cst6, cst7, cst8, cst9, cst10, cst11, cst12, ne_eq, not_false_eq_true, not_true_eq_false, dF_gcd, dF_lenL, dF_lenT, dF_int, dF_intb, dF_abs, dF_min, dF_max, dI_ii, dI_ib, dI_is, dI_il, dI_it, dI_bi, dI_bb, dI_bs, dI_bl, dI_bt, dI_si, dI_sb, dI_ss, dI_sl, dI_st, dI_li, dI_lb, dI_ls, dI_ll, dI_lt, dI_ti, dI_tb, dI_ts, dI_tl, dI_tt, dI_ni, dI_nb, dI_ns, dI_nl, dI_nt, Option.map_some, List.length_cons, List.length_nil, List.getElem?_cons_zero, List.getElem?_cons_succ, List.getElem?_nil, List.set_cons_zero, List.set_cons_succ, List.set_nil, List.map_cons, List.map_nil, List.cons_append, List.nil_append, List.append_nil, List.replicate, List.getD_cons_zero, List.getD_cons_succ, List.contains_nil, List.contains_cons, Nat.reduceBEq, Bool.or_false, Bool.false_or, Bool.or_self, Bool.or_true, Bool.true_or, List.isEmpty_nil, List.isEmpty_cons, decide_true, decide_false, if_true, if_false, Bool.false_eq_true, Bool.not_true, Bool.not_false, Bool.and_true, Bool.true_and, Bool.and_self, Bool.and_false, Bool.false_and, reduceIte, Nat.zero_add, Nat.reduceAdd, Nat.reduceSub, Nat.reduceLT, Nat.reduceLeDiff, Nat.reduceEqDiff, decide_eq_true_eq, eq_self, Option.some.injEq, reduceCtorEq, Nat.lt_irrefl, evSs_cons, hQ, d2_mod hm0, d2_fdiv hm0, pullV, d2_mul m1, d2_mul m2]
/-! ### calls -/
theorem call_io {m : List D → Option Out} {s : Nat} {a d d' v : D} {rs : List D} (h : rs[s]? = some d) (hm : m [d, fz a] = some (.ret v [d'])) (hv : isSc v = true) (ha : isSc a = true) : callD ⟨[true, false], m⟩ [.loc s, .tmp a] rs = some (.ok v (rs.set s d')) := by
  have e : rs.getD s .un = d := by rw [List.getD_eq_getElem?_getD, h]; rfl
  have hf : isFz a = true := isFz_of_sc ha
  have ho : isOwn v = true := isOwn_of_sc hv
  by_cases c : isOwn d' = true
  · simp [callD, ioOf, nodupB, passD, blank, res, h, hm, ho, isOwns, c, putBack]
  · simp [callD, ioOf, nodupB, passD, blank, res, h, hm, ho, isOwns, c, putBack, tmps, isFzs, hf, freezeV]
theorem call_io1 {m : List D → Option Out} {s : Nat} {d d' v : D} {rs : List D} (h : rs[s]? = some d) (hm : m [d] = some (.ret v [d'])) (hv : isOwn v = true) : callD ⟨[true], m⟩ [.loc s] rs = some (.ok v (rs.set s d')) := by
  have e : rs.getD s .un = d := by rw [List.getD_eq_getElem?_getD, h]; rfl
  by_cases c : isOwn d' = true
  · simp [callD, ioOf, nodupB, passD, blank, res, h, hm, hv, isOwns, c, putBack]
  · simp [callD, ioOf, nodupB, passD, blank, res, h, hm, hv, isOwns, c, putBack, tmps, isFzs, freezeV]
/-- the stream -/
def StOk (d : D) : Prop := ∃ o cs p q r, d = stD o cs p q r ∧ 0 ≤ p ∧ 0 ≤ q ∧ 0 ≤ r ∧ r < 2147483647
theorem StOk.un {d : D} (h : StOk d) : isUn d = false := by
  obtain ⟨o, cs, p, q, r, rfl, _⟩ := h
  rfl
theorem fdiv_nonneg' {a b : Int} (ha : 0 ≤ a) (hb : 0 < b) : 0 ≤ a.fdiv b := Int.fdiv_nonneg ha (by omega)
theorem pull_ok {d : D} {many : Int} (h : StOk d) (hm : 0 < many) : ∃ v d', StOk d' ∧ 0 ≤ v ∧ v < many ∧ m_pull [d, .int many] = some (.ret (.int v) [d']) := by
  obtain ⟨o, cs, p, q, r, rfl, hp, hq, hr, hr2⟩ := h
  obtain ⟨k1, k2, k3, k4⟩ := intake_ok (cs := cs) hp hq hr hr2
  refine ⟨(pullF cs p q r many).1, stD o cs (pullF cs p q r many).2.1 (pullF cs p q r many).2.2.1 (pullF cs p q r many).2.2.2, ⟨o, cs, _, _, _, rfl, ?_⟩, ?_⟩
  · unfold pullF
    generalize intake cs p q r = t at k1 k2 k3 k4
    obtain ⟨p', q', r'⟩ := t
    unfold pullV
    dsimp only at k1 k2 k3 k4 ⊢
    split
    · exact ⟨k1, fdiv_nonneg' k2 hm, k3, k4⟩
    · exact ⟨k1, k2, Int.fmod_nonneg_of_pos _ (by decide), Int.fmod_lt_of_pos _ (by decide)⟩
  · have hv : 0 ≤ (pullF cs p q r many).1 ∧ (pullF cs p q r many).1 < many := by
      unfold pullF
      generalize intake cs p q r = t
      obtain ⟨p', q', r'⟩ := t
      unfold pullV
      dsimp only
      split
      · exact ⟨Int.fmod_nonneg_of_pos _ hm, Int.fmod_lt_of_pos _ hm⟩
      · exact ⟨Int.fmod_nonneg_of_pos _ hm, Int.fmod_lt_of_pos _ hm⟩
    refine ⟨hv.1, hv.2, ?_⟩
    unfold stD m_pull
    dsimp only
    rw [intsOf_map]
    dsimp only
    rw [if_pos ⟨hp, hq, hr, hr2, hm⟩]
    rfl
theorem call_pull {d : D} {many : Int} {s : Nat} {rs : List D} (h : StOk d) (hm : 0 < many) (e : rs[s]? = some d) : ∃ v d', StOk d' ∧ 0 ≤ v ∧ v < many ∧ callD F_L_pull [.loc s, .tmp (.int many)] rs = some (.ok (.int v) (rs.set s d')) := by
  obtain ⟨v, d', h1, h2, h3, h4⟩ := pull_ok h hm
  exact ⟨v, d', h1, h2, h3, call_io e h4 rfl rfl⟩
/-! ### a big number -/
def b_L_big : Ss := .cons (.asg (.nm 2) (.con (.int 0))) (.cons (.for_ (.nm 3) (.rng1 (.cons (.con (.int 6)) (.nil))) (.cons (.asg (.nm 2) (.op2 .add (.pk (.op2 .mul (.var 2) (.con (.int 100000007)))) (.call "_law_pull" F_L_pull (.cons (.var 0) (.cons (.con (.int 100000007)) (.nil)))))) (.nil))) (.cons (.ret (.pk (.op2 .mod (.fnc .int (.cons (.var 2) (.nil))) (.var 1)))) (.nil)))
def n_L_big : Nat := 4
def m_big : List D → Option Out := evFn 0 [true, false] 4 b_L_big
def F_L_big : Fn := ⟨[true, false], m_big⟩
theorem big_loop {many : D} : ∀ (l : List Int) (k : Nat) (num : Int) (st x : D), StOk st → 0 ≤ num → num.natAbs < 2 ^ (1 + 28 * k) → k + l.length ≤ 100000 → ∃ num' st' x', StOk st' ∧ 0 ≤ num' ∧
    forL (tgA [0] (.nm 3)) (evSs 0 [0] (.cons (.asg (.nm 2) (.op2 .add (.pk (.op2 .mul (.var 2) (.con (.int 100000007)))) (.call "_law_pull" F_L_pull (.cons (.var 0) (.cons (.con (.int 100000007)) (.nil)))))) (.nil))) (l.map D.int) [st, many, .int num, x] = some (.nx [st', many, .int num', x'])
  | [], k, num, st, x, h, h0, hn, hk => ⟨num, st, x, h, h0, rfl⟩
  | i :: l, k, num, st, x, h, h0, hn, hk => by
    obtain ⟨v, st1, h1, v0, v1, e1⟩ := call_pull (rs := [st, many, .int num, .int i]) (s := 0) h (show (0 : Int) < 100000007 by decide) rfl
    have mm : mulOk num 100000007 = true := mul_of (1 + 28 * k) 27 hn (by decide) (by omega) (by omega)
    have hb : (num * 100000007 + v).natAbs < 2 ^ (1 + 28 * (k + 1)) := by
      have e : 2 ^ (1 + 28 * (k + 1)) = 2 ^ (1 + 28 * k) * 268435456 := by
        rw [show 1 + 28 * (k + 1) = (1 + 28 * k) + 28 by omega, Nat.pow_add]
      omega
    obtain ⟨num', st', x', h2, n0, e2⟩ := big_loop (many := many) l (k + 1) (num * 100000007 + v) st1 (.int i) h1 (by omega) hb (by simp only [List.length_cons] at hk; omega)
    refine ⟨num', st', x', h2, n0, ?_⟩
    rw [← e2]
    simp only [List.map_cons, forL]
    simp -implicitDefEqProofs only [evS, evT, evE, evP, evPs, evV, evA, evAnd, evOr, evI, Pv.a0, Pv.a1, Pv.v0, Pv.v1, opd, slotOf, satOp, Pv.two, Pv.one, ob_s, ob_n, sc_int, sc_bl, sc_str, sc_non, bd_ok, bd_exc, thenE_ok, thenE_exc, thenT_ok, thenT_exc, thenA_ok, thenI_ok, fl_nx, fl_ret, fl_exc, fl_bk, fl_ct, fl_nil, evSs_nil, asBl, asInt, un_non, un_bl, un_int, un_str, un_tup, un_lst, un_obj, un_un, fz, fzs, isSc, isScs, isFz, isFzs, isOwn, isOwns, dNeg, dT, tgA, setAll, okS, res, at2, it_tup, it_lst, chnD, lItems, tmps, cpyLoc, cpyTmp, ixTmp, ioPos, outFl, outsOf, fzs_ints, Pv.sto1, Pv.sto2, ownItems, at2_0, at2_1, at3_0, at3_1, at3_2, at4_0, at4_1, at4_2, at4_3, ix_20, ix_21, ix_40, ix_41, ix_42, ix_43, List.length_map, isFzs, d2_add, d2_sub, d2_lt, d2_le, d2_gt, d2_ge, d2_eq, d2_ne, d2_eqs, d2_eqb, d2_isn_non, d2_isn_int, d2_isn_bl, d2_isn_str, d2_isn_tup, d2_isn_lst, d2_notn_non, d2_notn_int, d2_notn_bl, d2_notn_str, d2_notn_tup, d2_notn_lst, d2_mod, d2_fdiv, Int.reduceToNat, Int.reducePow, Int.reduceEq, Int.reduceLT, Int.reduceLE, Int.reduceNeg, Int.reduceMul, Int.reduceAdd, Int.reduceSub, cst0, cst1, cst2, cst3, cst4, cst5, cst6, cst7, cst8, cst9, cst10, cst11, cst12, ne_eq, not_false_eq_true, not_true_eq_false, dF_gcd, dF_lenL, dF_lenT, dF_int, dF_intb, dF_abs, dF_min, dF_max, dI_ii, dI_ib, dI_is, dI_il, dI_it, dI_bi, dI_bb, dI_bs, dI_bl, dI_bt, dI_si, dI_sb, dI_ss, dI_sl, dI_st, dI_li, dI_lb, dI_ls, dI_ll, dI_lt, dI_ti, dI_tb, dI_ts, dI_tl, dI_tt, dI_ni, dI_nb, dI_ns, dI_nl, dI_nt, Option.map_some, List.length_cons, List.length_nil, List.getElem?_cons_zero, List.getElem?_cons_succ, List.getElem?_nil, List.set_cons_zero, List.set_cons_succ, List.set_nil, List.map_cons, List.map_nil, List.cons_append, List.nil_append, List.append_nil, List.replicate, List.getD_cons_zero, List.getD_cons_succ, List.contains_nil, List.contains_cons, Nat.reduceBEq, Bool.or_false, Bool.false_or, Bool.or_self, Bool.or_true, Bool.true_or, List.isEmpty_nil, List.isEmpty_cons, decide_true, decide_false, if_true, if_false, Bool.false_eq_true, Bool.not_true, Bool.not_false, Bool.and_true, Bool.true_and, Bool.and_self, Bool.and_false, Bool.false_and, reduceIte, Nat.zero_add, Nat.reduceAdd, Nat.reduceSub, Nat.reduceLT, Nat.reduceLeDiff, Nat.reduceEqDiff, decide_eq_true_eq, eq_self, Option.some.injEq, reduceCtorEq, Nat.lt_irrefl, evSs_cons, d2_mul mm, e1, h.un]
theorem big_ok {d : D} {many : Int} (h : StOk d) (hm : 0 < many) : ∃ v d', StOk d' ∧ 0 ≤ v ∧ v < many ∧ m_big [d, .int many] = some (.ret (.int v) [d']) := by
  obtain ⟨num', st', x', h2, n0, e2⟩ := big_loop (many := .int many) [0, 1, 2, 3, 4, 5] 0 0 d .un h (by decide) (by decide) (by decide)
  refine ⟨num'.fmod many, st', h2, Int.fmod_nonneg_of_pos _ hm, Int.fmod_lt_of_pos _ hm, ?_⟩
  have hm0 : many ≠ 0 := by omega
  unfold m_big evFn b_L_big
  have er : rngD 0 6 = [0, 1, 2, 3, 4, 5].map D.int := by rfl
  have eb : rngB 6 = true := by decide
  simp -implicitDefEqProofs only [evS, evT, evE, evP, evPs, evV, evA, evAnd, evOr, evI, Pv.a0, Pv.a1, Pv.v0, Pv.v1, opd, slotOf, satOp, Pv.two, Pv.one, ob_s, ob_n, sc_int, sc_bl, sc_str, sc_non, bd_ok, bd_exc, thenE_ok, thenE_exc, thenT_ok, thenT_exc, thenA_ok, thenI_ok, fl_nx, fl_ret, fl_exc, fl_bk, fl_ct, fl_nil, evSs_nil, asBl, asInt, un_non, un_bl, un_int, un_str, un_tup, un_lst, un_obj, un_un, fz, fzs, isSc, isScs, isFz, isFzs, isOwn, isOwns, dNeg, dT, tgA, setAll, okS, res, at2, it_tup, it_lst, chnD, lItems, tmps, cpyLoc, cpyTmp, ixTmp, ioPos, outFl, outsOf, fzs_ints, Pv.sto1, Pv.sto2, ownItems, at2_0, at2_1, at3_0, at3_1, at3_2, at4_0, at4_1, at4_2, at4_3, ix_20, ix_21, ix_40, ix_41, ix_42, ix_43, List.length_map, isFzs, d2_add, d2_sub, d2_lt, d2_le, d2_gt, d2_ge, d2_eq, d2_ne, d2_eqs, d2_eqb, d2_isn_non, d2_isn_int, d2_isn_bl, d2_isn_str, d2_isn_tup, d2_isn_lst, d2_notn_non, d2_notn_int, d2_notn_bl, d2_notn_str, d2_notn_tup, d2_notn_lst, d2_mod, d2_fdiv, Int.reduceToNat, Int.reducePow, Int.reduceEq, Int.reduceLT, Int.reduceLE, Int.reduceNeg, Int.reduceMul, Int.reduceAdd, Int.reduceSub, cst0, cst1, cst2, cst3, cst4, cst5, cst6, cst7, cst8, cst9, cst10, cst11, cst12, ne_eq, not_false_eq_true, not_true_eq_false, dF_gcd, dF_lenL, dF_lenT, dF_int, dF_intb, dF_abs, dF_min, dF_max, dI_ii, dI_ib, dI_is, dI_il, dI_it, dI_bi, dI_bb, dI_bs, dI_bl, dI_bt, dI_si, dI_sb, dI_ss, dI_sl, dI_st, dI_li, dI_lb, dI_ls, dI_ll, dI_lt, dI_ti, dI_tb, dI_ts, dI_tl, dI_tt, dI_ni, dI_nb, dI_ns, dI_nl, dI_nt, Option.map_some, List.length_cons, List.length_nil, List.getElem?_cons_zero, List.getElem?_cons_succ, List.getElem?_nil, List.set_cons_zero, List.set_cons_succ, List.set_nil, List.map_cons, List.map_nil, List.cons_append, List.nil_append, List.append_nil, List.replicate, List.getD_cons_zero, List.getD_cons_succ, List.contains_nil, List.contains_cons, Nat.reduceBEq, Bool.or_false, Bool.false_or, Bool.or_self, Bool.or_true, Bool.true_or, List.isEmpty_nil, List.isEmpty_cons, decide_true, decide_false, if_true, if_false, Bool.false_eq_true, Bool.not_true, Bool.not_false, Bool.and_true, Bool.true_and, Bool.and_self, Bool.and_false, Bool.false_and, reduceIte, Nat.zero_add, Nat.reduceAdd, Nat.reduceSub, Nat.reduceLT, Nat.reduceLeDiff, Nat.reduceEqDiff, decide_eq_true_eq, eq_self, Option.some.injEq, reduceCtorEq, Nat.lt_irrefl, evSs_cons, eb]
  rw [er, e2]
  simp -implicitDefEqProofs only [evS, evT, evE, evP, evPs, evV, evA, evAnd, evOr, evI, Pv.a0, Pv.a1, Pv.v0, Pv.v1, opd, slotOf, satOp, Pv.two, Pv.one, ob_s, ob_n, sc_int, sc_bl, sc_str, sc_non, bd_ok, bd_exc, thenE_ok, thenE_exc, thenT_ok, thenT_exc, thenA_ok, thenI_ok, fl_nx, fl_ret, fl_exc, fl_bk, fl_ct, fl_nil, evSs_nil, asBl, asInt, un_non, un_bl, un_int, un_str, un_tup, un_lst, un_obj, un_un, fz, fzs, isSc, isScs, isFz, isFzs, isOwn, isOwns, dNeg, dT, tgA, setAll, okS, res, at2, it_tup, it_lst, chnD, lItems, tmps, cpyLoc, cpyTmp, ixTmp, ioPos, outFl, outsOf, fzs_ints, Pv.sto1, Pv.sto2, ownItems, at2_0, at2_1, at3_0, at3_1, at3_2, at4_0, at4_1, at4_2, at4_3, ix_20, ix_21, ix_40, ix_41, ix_42, ix_43, List.length_map, isFzs, d2_add, d2_sub, d2_lt, d2_le, d2_gt, d2_ge, d2_eq, d2_ne, d2_eqs, d2_eqb, d2_isn_non, d2_isn_int, d2_isn_bl, d2_isn_str, d2_isn_tup, d2_isn_lst, d2_notn_non, d2_notn_int, d2_notn_bl, d2_notn_str, d2_notn_tup, d2_notn_lst, d2_mod, d2_fdiv, Int.reduceToNat, Int.reducePow, Int.reduceEq, Int.reduceLT, Int.reduceLE, Int.reduceNeg, Int.reduceMul, Int.reduceAdd, Int.reduceSub, cst0, cst1, cst2, cst3, cst4, cst5, cst6, cst7, cst8, cst9, cst10, cst11, cst12, ne_eq, not_false_eq_true, not_true_eq_false, dF_gcd, dF_lenL, dF_lenT, dF_int, dF_intb, dF_abs, dF_min, dF_max, dI_ii, dI_ib, dI_is, dI_il, dI_it, dI_bi, dI_bb, dI_bs, dI_bl, dI_bt, dI_si, dI_sb, dI_ss, dI_sl, dI_st, dI_li, dI_lb, dI_ls, dI_ll, dI_lt, dI_ti, dI_tb, dI_ts, dI_tl, dI_tt, dI_ni, dI_nb, dI_ns, dI_nl, dI_nt, Option.map_some, List.length_cons, List.length_nil, List.getElem?_cons_zero, List.getElem?_cons_succ, List.getElem?_nil, List.set_cons_zero, List.set_cons_succ, List.set_nil, List.map_cons, List.map_nil, List.cons_append, List.nil_append, List.append_nil, List.replicate, List.getD_cons_zero, List.getD_cons_succ, List.contains_nil, List.contains_cons, Nat.reduceBEq, Bool.or_false, Bool.false_or, Bool.or_self, Bool.or_true, Bool.true_or, List.isEmpty_nil, List.isEmpty_cons, decide_true, decide_false, if_true, if_false, Bool.false_eq_true, Bool.not_true, Bool.not_false, Bool.and_true, Bool.true_and, Bool.and_self, Bool.and_false, Bool.false_and, reduceIte, Nat.zero_add, Nat.reduceAdd, Nat.reduceSub, Nat.reduceLT, Nat.reduceLeDiff, Nat.reduceEqDiff, decide_eq_true_eq, eq_self, Option.some.injEq, reduceCtorEq, Nat.lt_irrefl, evSs_cons, d2_mod hm0]
theorem call_big {d : D} {many : Int} {s : Nat} {rs : List D} (h : StOk d) (hm : 0 < many) (e : rs[s]? = some d) : ∃ v d', StOk d' ∧ 0 ≤ v ∧ v < many ∧ callD F_L_big [.loc s, .tmp (.int many)] rs = some (.ok (.int v) (rs.set s d')) := by
  obtain ⟨v, d', h1, h2, h3, h4⟩ := big_ok h hm
  exact ⟨v, d', h1, h2, h3, call_io e h4 rfl rfl⟩
/-! ### the beginning -/
def m_start : List D → Option Out := evFn 0 [false] 1 b_L_start
def F_L_start : Fn := ⟨[false], m_start⟩
theorem start_ok {cs : List Int} {rs : List D} {s : Nat} (e : rs[s]? = some (.lst false (cs.map D.int))) : ∃ d, StOk d ∧ callD F_L_start [.loc s] rs = some (.ok d rs) := by
  have h1 : isFzs (cs.map D.int) = true := by
    have := isFzs_fzs (cs.map D.int)
    rw [fzs_ints] at this
    exact this
  have h2 : isOwns (cs.map D.int) = true := by
    clear h1 e
    induction cs with
    | nil => rfl
    | cons c cs ih => simp only [List.map_cons, isOwns, isOwn, Bool.true_and]; exact ih
  refine ⟨stD true cs 0 0 1234577, ⟨true, cs, 0, 0, 1234577, rfl, by decide, by decide, by decide, by decide⟩, ?_⟩
  have hm : m_start [.lst false (cs.map D.int)] = some (.ret (stD true cs 0 0 1234577) []) := by
    unfold m_start evFn b_L_start stD
    simp -implicitDefEqProofs only [evS, evT, evE, evP, evPs, evV, evA, evAnd, evOr, evI, Pv.a0, Pv.a1, Pv.v0, Pv.v1, opd, slotOf, satOp, Pv.two, Pv.one, ob_s, ob_n, sc_int, sc_bl, sc_str, sc_non, bd_ok, bd_exc, thenE_ok, thenE_exc, thenT_ok, thenT_exc, thenA_ok, thenI_ok, fl_nx, fl_ret, fl_exc, fl_bk, fl_ct, fl_nil, evSs_nil, asBl, asInt, un_non, un_bl, un_int, un_str, un_tup, un_lst, un_obj, un_un, fz, fzs, isSc, isScs, isFz, isFzs, isOwn, isOwns, dNeg, dT, tgA, setAll, okS, res, at2, it_tup, it_lst, chnD, lItems, tmps, cpyLoc, cpyTmp, ixTmp, ioPos, outFl, outsOf, fzs_ints, Pv.sto1, Pv.sto2, ownItems, at2_0, at2_1, at3_0, at3_1, at3_2, at4_0, at4_1, at4_2, at4_3, ix_20, ix_21, ix_40, ix_41, ix_42, ix_43, List.length_map, isFzs, d2_add, d2_sub, d2_lt, d2_le, d2_gt, d2_ge, d2_eq, d2_ne, d2_eqs, d2_eqb, d2_isn_non, d2_isn_int, d2_isn_bl, d2_isn_str, d2_isn_tup, d2_isn_lst, d2_notn_non, d2_notn_int, d2_notn_bl, d2_notn_str, d2_notn_tup, d2_notn_lst, d2_mod, d2_fdiv, Int.reduceToNat, Int.reducePow, Int.reduceEq, Int.reduceLT, Int.reduceLE, Int.reduceNeg, Int.reduceMul, Int.reduceAdd, Int.reduceSub, cst0, cst1, cst2, cst3, cst4, cst5, cst6, cst7, cst8, cst9, cst10, cst11, cst12, ne_eq, not_false_eq_true, not_true_eq_false, dF_gcd, dF_lenL, dF_lenT, dF_int, dF_intb, dF_abs, dF_min, dF_max, dI_ii, dI_ib, dI_is, dI_il, dI_it, dI_bi, dI_bb, dI_bs, dI_bl, dI_bt, dI_si, dI_sb, dI_ss, dI_sl, dI_st, dI_li, dI_lb, dI_ls, dI_ll, dI_lt, dI_ti, dI_tb, dI_ts, dI_tl, dI_tt, dI_ni, dI_nb, dI_ns, dI_nl, dI_nt, Option.map_some, List.length_cons, List.length_nil, List.getElem?_cons_zero, List.getElem?_cons_succ, List.getElem?_nil, List.set_cons_zero, List.set_cons_succ, List.set_nil, List.map_cons, List.map_nil, List.cons_append, List.nil_append, List.append_nil, List.replicate, List.getD_cons_zero, List.getD_cons_succ, List.contains_nil, List.contains_cons, Nat.reduceBEq, Bool.or_false, Bool.false_or, Bool.or_self, Bool.or_true, Bool.true_or, List.isEmpty_nil, List.isEmpty_cons, decide_true, decide_false, if_true, if_false, Bool.false_eq_true, Bool.not_true, Bool.not_false, Bool.and_true, Bool.true_and, Bool.and_self, Bool.and_false, Bool.false_and, reduceIte, Nat.zero_add, Nat.reduceAdd, Nat.reduceSub, Nat.reduceLT, Nat.reduceLeDiff, Nat.reduceEqDiff, decide_eq_true_eq, eq_self, Option.some.injEq, reduceCtorEq, Nat.lt_irrefl, evSs_cons, h1, isFzs, Bool.not_false]
  have ho : isOwn (stD true cs 0 0 1234577) = true := by simp [stD, isOwn, isOwns, h2]
  simp [callD, F_L_start, ioOf, nodupB, passD, blank, res, e, fz, fzs_ints, hm, ho, isOwns, putBack]
/-! ### are two values the same -/
mutual
/-- data that _law_same looks at, at most k deep -/
def plain : Nat → D → Bool
  | 0, _ => false
  | _ + 1, .non => true
  | _ + 1, .bl _ => true
  | _ + 1, .int _ => true
  | _ + 1, .str _ => true
  | k + 1, .tup xs => decide (xs.length ≤ 1000) && plains k xs
  | k + 1, .lst o xs => !o && (decide (xs.length ≤ 1000) && plains k xs)
  | _, _ => false
def plains : Nat → List D → Bool
  | _, [] => true
  | k, d :: ds => plain k d && plains k ds
end
mutual
def eqD : D → D → Bool
  | .un, .un => true
  | .non, .non => true
  | .bl a, .bl b => a == b
  | .int a, .int b => decide (a = b)
  | .str a, .str b => decide (a = b)
  | .tup xs, .tup ys => eqDs xs ys
  | .lst o xs, .lst p ys => (o == p) && eqDs xs ys
  | .obj o C ns xs, .obj p C' ns' ys => (o == p) && (decide (C = C') && (decide (ns = ns') && eqDs xs ys))
  | _, _ => false
def eqDs : List D → List D → Bool
  | [], [] => true
  | x :: xs, y :: ys => eqD x y && eqDs xs ys
  | _, _ => false
end
mutual
theorem eqD_ok : ∀ {a b : D}, eqD a b = true → a = b
  | .un, b, h => by cases b <;> first | rfl | (simp [eqD] at h)
  | .non, b, h => by cases b <;> first | rfl | (simp [eqD] at h)
  | .bl a, b, h => by
    cases b <;> first | (simp [eqD] at h; done) | skip
    simp only [eqD, beq_iff_eq] at h
    rw [h]
  | .int a, b, h => by
    cases b <;> first | (simp [eqD] at h; done) | skip
    simp only [eqD, decide_eq_true_eq] at h
    rw [h]
  | .str a, b, h => by
    cases b <;> first | (simp [eqD] at h; done) | skip
    simp only [eqD, decide_eq_true_eq] at h
    rw [h]
  | .tup xs, b, h => by
    cases b <;> first | (simp [eqD] at h; done) | skip
    simp only [eqD] at h
    rw [eqDs_ok h]
  | .lst o xs, b, h => by
    cases b <;> first | (simp [eqD] at h; done) | skip
    simp only [eqD, Bool.and_eq_true, beq_iff_eq] at h
    rw [h.1, eqDs_ok h.2]
  | .obj o C ns xs, b, h => by
    cases b <;> first | (simp [eqD] at h; done) | skip
    simp only [eqD, Bool.and_eq_true, beq_iff_eq, decide_eq_true_eq] at h
    rw [h.1, h.2.1, h.2.2.1, eqDs_ok h.2.2.2]
theorem eqDs_ok : ∀ {a b : List D}, eqDs a b = true → a = b
  | [], [], _ => rfl
  | x :: xs, y :: ys, h => by
    simp only [eqDs, Bool.and_eq_true] at h
    rw [eqD_ok h.1, eqDs_ok h.2]
  | [], _ :: _, h => by simp [eqDs] at h
  | _ :: _, [], h => by simp [eqDs] at h
end
mutual
theorem eqD_refl : ∀ a : D, eqD a a = true
  | .un => rfl
  | .non => rfl
  | .bl a => by simp [eqD]
  | .int a => by simp [eqD]
  | .str a => by simp [eqD]
  | .tup xs => by simp only [eqD]; exact eqDs_refl xs
  | .lst o xs => by simp only [eqD, beq_self_eq_true, Bool.true_and]; exact eqDs_refl xs
  | .obj o C ns xs => by simp only [eqD, beq_self_eq_true, Bool.true_and, decide_true]; exact eqDs_refl xs
theorem eqDs_refl : ∀ a : List D, eqDs a a = true
  | [] => rfl
  | x :: xs => by simp only [eqDs, eqD_refl x, eqDs_refl xs, Bool.and_self]
end
theorem plain_0 (d : D) : plain 0 d = false := by cases d <;> rfl
/-- what is asked of it: that the same are told to be the same -/
def m_same (k : Nat) : List D → Option Out
  | [t, d] => if eqD t d && plain k d then some (.ret (.bl true) []) else none
  | _ => none
def F_L_same (k : Nat) : Fn := ⟨[false, false], m_same k⟩
def b_L_same (k : Nat) : Ss := .cons (.ite (.pk (.op2 .isn (.var 1) (.con (.non)))) (.cons (.ret (.pk (.op2 .isn (.var 0) (.con (.non))))) (.nil)) (.nil)) (.cons (.ite (.pk (.isi (.var 1) "bool")) (.cons (.ret (.land (.cons (.pk (.isi (.var 0) "bool")) (.cons (.pk (.op2 .eq (.var 0) (.var 1))) (.nil))))) (.nil)) (.nil)) (.cons (.ite (.pk (.isi (.var 1) "int")) (.cons (.ret (.land (.cons (.call "_law_is_int" F_L_is_int (.cons (.var 0) (.nil))) (.cons (.pk (.op2 .eq (.var 0) (.var 1))) (.nil))))) (.nil)) (.nil)) (.cons (.ite (.pk (.isi (.var 1) "str")) (.cons (.ret (.land (.cons (.pk (.isi (.var 0) "str")) (.cons (.pk (.op2 .eq (.var 0) (.var 1))) (.nil))))) (.nil)) (.nil)) (.cons (.ite (.land (.cons (.pk (.isi (.var 1) "list")) (.cons (.lnot (.pk (.isi (.var 0) "list"))) (.nil)))) (.cons (.ret (.con (.bl false))) (.nil)) (.nil)) (.cons (.ite (.land (.cons (.pk (.isi (.var 1) "tuple")) (.cons (.lnot (.pk (.isi (.var 0) "tuple"))) (.nil)))) (.cons (.ret (.con (.bl false))) (.nil)) (.nil)) (.cons (.ite (.pk (.op2 .ne (.fnc .len (.cons (.var 0) (.nil))) (.fnc .len (.cons (.var 1) (.nil))))) (.cons (.ret (.con (.bl false))) (.nil)) (.nil)) (.cons (.for_ (.nm 2) (.rng1 (.cons (.pk (.fnc .len (.cons (.var 1) (.nil)))) (.nil))) (.cons (.ite (.lnot (.call "_law_same" (F_L_same k) (.cons (.ix (.var 0) (.var 2)) (.cons (.ix (.var 1) (.var 2)) (.nil))))) (.cons (.ret (.con (.bl false))) (.nil)) (.nil)) (.nil))) (.cons (.ret (.con (.bl true))) (.nil)))))))))
def n_L_same : Nat := 3
theorem same_of {k : Nat} {d : D} (h : plain k d = true) : m_same k [d, d] = some (.ret (.bl true) []) := by
  simp only [m_same, eqD_refl, h, Bool.and_self, if_true]
mutual
theorem plain_fz : ∀ {k : Nat} (d : D), plain k d = true → isFz d = true
  | 0, d, h => by cases d <;> simp [plain] at h
  | k + 1, .un, h => by simp [plain] at h
  | k + 1, .non, _ => rfl
  | k + 1, .bl _, _ => rfl
  | k + 1, .int _, _ => rfl
  | k + 1, .str _, _ => rfl
  | k + 1, .tup xs, h => by
    simp only [plain, Bool.and_eq_true] at h
    simp only [isFz]
    exact plains_fz xs h.2
  | k + 1, .lst o xs, h => by
    simp only [plain, Bool.and_eq_true] at h
    simp only [isFz, Bool.and_eq_true]
    exact ⟨h.1, plains_fz xs h.2.2⟩
  | k + 1, .obj _ _ _ _, h => by simp [plain] at h
theorem plains_fz : ∀ {k : Nat} (ds : List D), plains k ds = true → isFzs ds = true
  | _, [], _ => rfl
  | k, d :: ds, h => by
    simp only [plains, Bool.and_eq_true] at h
    simp only [isFzs, Bool.and_eq_true]
    exact ⟨plain_fz d h.1, plains_fz ds h.2⟩
end
theorem plains_at : ∀ {k : Nat} {ds : List D} {j : Nat} {c : D}, plains k ds = true → ds[j]? = some c → plain k c = true
  | k, d :: ds, 0, c, h, e => by
    simp only [plains, Bool.and_eq_true] at h
    cases e
    exact h.1
  | k, d :: ds, j + 1, c, h, e => by
    simp only [plains, Bool.and_eq_true] at h
    exact plains_at (j := j) h.2 (by simpa using e)
  | k, [], _, _, _, e => by simp at e
theorem at_nat {xs : List D} {j : Nat} {c : D} (h : xs[j]? = some c) : L2.atI xs (j : Int) = some c := by
  have hl : j < xs.length := (List.getElem?_eq_some_iff.mp h).1
  unfold L2.atI L2.ixN
  rw [if_pos (by omega), if_pos (by omega)]
  exact h
theorem call_v1 {m : List D → Option Out} {v : D} {rs : List D} {A : Arg} (hm : m [res rs A] = some (.ret v [])) (hv : isOwn v = true) : callD ⟨[false], m⟩ [A] rs = some (.ok v rs) := by
  cases A <;> simp [callD, ioOf, nodupB, passD, blank, hm, hv, isOwns, putBack]
theorem call_v2 {m : List D → Option Out} {v : D} {rs : List D} {A B : Arg} (hm : m [res rs A, res rs B] = some (.ret v [])) (hv : isOwn v = true) : callD ⟨[false, false], m⟩ [A, B] rs = some (.ok v rs) := by
  cases A <;> cases B <;> simp [callD, ioOf, nodupB, passD, blank, hm, hv, isOwns, putBack]
theorem call_v3 {m : List D → Option Out} {v : D} {rs : List D} {A B C : Arg} (hm : m [res rs A, res rs B, res rs C] = some (.ret v [])) (hv : isOwn v = true) : callD ⟨[false, false, false], m⟩ [A, B, C] rs = some (.ok v rs) := by
  cases A <;> cases B <;> cases C <;> simp [callD, ioOf, nodupB, passD, blank, hm, hv, isOwns, putBack]
theorem call_v4 {m : List D → Option Out} {v : D} {rs : List D} {A B C E : Arg} (hm : m [res rs A, res rs B, res rs C, res rs E] = some (.ret v [])) (hv : isOwn v = true) : callD ⟨[false, false, false, false], m⟩ [A, B, C, E] rs = some (.ok v rs) := by
  cases A <;> cases B <;> cases C <;> cases E <;> simp [callD, ioOf, nodupB, passD, blank, hm, hv, isOwns, putBack]
theorem plain_un {k : Nat} {d : D} (h : plain k d = true) : isUn d = false := by
  cases d <;> first | rfl | (cases k <;> simp [plain] at h)
theorem sc_of_bl : isOwn (.bl true) = true := rfl
theorem isint_loc (d : D) {rs : List D} (hn : tyName d ≠ none) : callD F_L_is_int [.loc 0] (d :: rs) = some (.ok (.bl (isIntD d)) (d :: rs)) := call_v1 (by
  show m_is_int [fz d] = _
  cases d <;> first | rfl | (exact absurd rfl hn)) rfl
def same_body (k : Nat) : Ss := .cons (.ite (.lnot (.call "_law_same" (F_L_same k) (.cons (.ix (.var 0) (.var 2)) (.cons (.ix (.var 1) (.var 2)) (.nil))))) (.cons (.ret (.con (.bl false))) (.nil)) (.nil)) (.nil)
theorem same_loop {k : Nat} {T : D} {xs : List D} (hT : itemsOf T = some xs) (hu : isUn T = false) (hp : plains k xs = true) : ∀ (l : List Nat) (x : D), (∀ j ∈ l, j < xs.length) → ∃ x', forL (tgA [] (.nm 2)) (evSs 0 [] (same_body k)) (l.map fun j => .int (0 + (j : Nat))) [T, T, x] = some (.nx [T, T, x'])
  | [], x, _ => ⟨x, rfl⟩
  | j :: l, x, h => by
    obtain ⟨x', e⟩ := same_loop hT hu hp l (.int (0 + (j : Nat))) fun i hi => h i (List.mem_cons_of_mem _ hi)
    refine ⟨x', ?_⟩
    rw [← e]
    have ec := List.getElem?_eq_getElem (h j List.mem_cons_self)
    generalize xs[j]'(h j List.mem_cons_self) = c at ec
    have pc := plains_at hp ec
    have hc := plain_fz c pc
    have e0 : (0 : Int) + (j : Nat) = (j : Int) := by omega
    have cl : ∀ rs, callD (F_L_same k) [.tmp c, .tmp c] rs = some (.ok (.bl true) rs) := fun rs => call_v2 (by
      show m_same k [fz c, fz c] = _
      rw [fz_id c hc]
      exact same_of pc) rfl
    simp only [List.map_cons, forL]
    rw [e0]
    unfold same_body
    simp -implicitDefEqProofs only [evS, evT, evE, evP, evPs, evV, evA, evAnd, evOr, evI, Pv.a0, Pv.a1, Pv.v0, Pv.v1, opd, slotOf, satOp, Pv.two, Pv.one, ob_s, ob_n, sc_int, sc_bl, sc_str, sc_non, bd_ok, bd_exc, thenE_ok, thenE_exc, thenT_ok, thenT_exc, thenA_ok, thenI_ok, fl_nx, fl_ret, fl_exc, fl_bk, fl_ct, fl_nil, evSs_nil, asBl, asInt, un_non, un_bl, un_int, un_str, un_tup, un_lst, un_obj, un_un, fz, fzs, isSc, isScs, isFz, isFzs, isOwn, isOwns, dNeg, dT, tgA, setAll, okS, res, at2, it_tup, it_lst, chnD, lItems, tmps, cpyLoc, cpyTmp, ixTmp, ioPos, outFl, outsOf, fzs_ints, Pv.sto1, Pv.sto2, ownItems, at2_0, at2_1, at3_0, at3_1, at3_2, at4_0, at4_1, at4_2, at4_3, ix_20, ix_21, ix_40, ix_41, ix_42, ix_43, List.length_map, isFzs, d2_add, d2_sub, d2_lt, d2_le, d2_gt, d2_ge, d2_eq, d2_ne, d2_eqs, d2_eqb, d2_isn_non, d2_isn_int, d2_isn_bl, d2_isn_str, d2_isn_tup, d2_isn_lst, d2_notn_non, d2_notn_int, d2_notn_bl, d2_notn_str, d2_notn_tup, d2_notn_lst, d2_mod, d2_fdiv, Int.reduceToNat, Int.reducePow, Int.reduceEq, Int.reduceLT, Int.reduceLE, Int.reduceNeg, Int.reduceMul, Int.reduceAdd, Int.reduceSub, cst0, cst1, cst2, cst3, cst4, cst5, cst6, cst7, cst8, cst9, cst10, cst11, cst12, ne_eq, not_false_eq_true, not_true_eq_false, dF_gcd, dF_lenL, dF_lenT, dF_int, dF_intb, dF_abs, dF_min, dF_max, dI_ii, dI_ib, dI_is, dI_il, dI_it, dI_bi, dI_bb, dI_bs, dI_bl, dI_bt, dI_si, dI_sb, dI_ss, dI_sl, dI_st, dI_li, dI_lb, dI_ls, dI_ll, dI_lt, dI_ti, dI_tb, dI_ts, dI_tl, dI_tt, dI_ni, dI_nb, dI_ns, dI_nl, dI_nt, Option.map_some, List.length_cons, List.length_nil, List.getElem?_cons_zero, List.getElem?_cons_succ, List.getElem?_nil, List.set_cons_zero, List.set_cons_succ, List.set_nil, List.map_cons, List.map_nil, List.cons_append, List.nil_append, List.append_nil, List.replicate, List.getD_cons_zero, List.getD_cons_succ, List.contains_nil, List.contains_cons, Nat.reduceBEq, Bool.or_false, Bool.false_or, Bool.or_self, Bool.or_true, Bool.true_or, List.isEmpty_nil, List.isEmpty_cons, decide_true, decide_false, if_true, if_false, Bool.false_eq_true, Bool.not_true, Bool.not_false, Bool.and_true, Bool.true_and, Bool.and_self, Bool.and_false, Bool.false_and, reduceIte, Nat.zero_add, Nat.reduceAdd, Nat.reduceSub, Nat.reduceLT, Nat.reduceLeDiff, Nat.reduceEqDiff, decide_eq_true_eq, eq_self, Option.some.injEq, reduceCtorEq, Nat.lt_irrefl, evSs_cons, hu, ixLoc, hT, at_nat ec, hc, cl]
theorem hs_a (k : Nat) : evFn 0 [false, false] 3 (b_L_same k) [.non, .non] = some (.ret (.bl true) []) := by
  unfold evFn b_L_same
  simp -implicitDefEqProofs only [evS, evT, evE, evP, evPs, evV, evA, evAnd, evOr, evI, Pv.a0, Pv.a1, Pv.v0, Pv.v1, opd, slotOf, satOp, Pv.two, Pv.one, ob_s, ob_n, sc_int, sc_bl, sc_str, sc_non, bd_ok, bd_exc, thenE_ok, thenE_exc, thenT_ok, thenT_exc, thenA_ok, thenI_ok, fl_nx, fl_ret, fl_exc, fl_bk, fl_ct, fl_nil, evSs_nil, asBl, asInt, un_non, un_bl, un_int, un_str, un_tup, un_lst, un_obj, un_un, fz, fzs, isSc, isScs, isFz, isFzs, isOwn, isOwns, dNeg, dT, tgA, setAll, okS, res, at2, it_tup, it_lst, chnD, lItems, tmps, cpyLoc, cpyTmp, ixTmp, ioPos, outFl, outsOf, fzs_ints, Pv.sto1, Pv.sto2, ownItems, at2_0, at2_1, at3_0, at3_1, at3_2, at4_0, at4_1, at4_2, at4_3, ix_20, ix_21, ix_40, ix_41, ix_42, ix_43, List.length_map, isFzs, d2_add, d2_sub, d2_lt, d2_le, d2_gt, d2_ge, d2_eq, d2_ne, d2_eqs, d2_eqb, d2_isn_non, d2_isn_int, d2_isn_bl, d2_isn_str, d2_isn_tup, d2_isn_lst, d2_notn_non, d2_notn_int, d2_notn_bl, d2_notn_str, d2_notn_tup, d2_notn_lst, d2_mod, d2_fdiv, Int.reduceToNat, Int.reducePow, Int.reduceEq, Int.reduceLT, Int.reduceLE, Int.reduceNeg, Int.reduceMul, Int.reduceAdd, Int.reduceSub, cst0, cst1, cst2, cst3, cst4, cst5, cst6, cst7, cst8, cst9, cst10, cst11, cst12, ne_eq, not_false_eq_true, not_true_eq_false, dF_gcd, dF_lenL, dF_lenT, dF_int, dF_intb, dF_abs, dF_min, dF_max, dI_ii, dI_ib, dI_is, dI_il, dI_it, dI_bi, dI_bb, dI_bs, dI_bl, dI_bt, dI_si, dI_sb, dI_ss, dI_sl, dI_st, dI_li, dI_lb, dI_ls, dI_ll, dI_lt, dI_ti, dI_tb, dI_ts, dI_tl, dI_tt, dI_ni, dI_nb, dI_ns, dI_nl, dI_nt, Option.map_some, List.length_cons, List.length_nil, List.getElem?_cons_zero, List.getElem?_cons_succ, List.getElem?_nil, List.set_cons_zero, List.set_cons_succ, List.set_nil, List.map_cons, List.map_nil, List.cons_append, List.nil_append, List.append_nil, List.replicate, List.getD_cons_zero, List.getD_cons_succ, List.contains_nil, List.contains_cons, Nat.reduceBEq, Bool.or_false, Bool.false_or, Bool.or_self, Bool.or_true, Bool.true_or, List.isEmpty_nil, List.isEmpty_cons, decide_true, decide_false, if_true, if_false, Bool.false_eq_true, Bool.not_true, Bool.not_false, Bool.and_true, Bool.true_and, Bool.and_self, Bool.and_false, Bool.false_and, reduceIte, Nat.zero_add, Nat.reduceAdd, Nat.reduceSub, Nat.reduceLT, Nat.reduceLeDiff, Nat.reduceEqDiff, decide_eq_true_eq, eq_self, Option.some.injEq, reduceCtorEq, Nat.lt_irrefl]
  rw [evSs_cons]; simp -implicitDefEqProofs only [evS, evT, evE, evP, evPs, evV, evA, evAnd, evOr, evI, Pv.a0, Pv.a1, Pv.v0, Pv.v1, opd, slotOf, satOp, Pv.two, Pv.one, ob_s, ob_n, sc_int, sc_bl, sc_str, sc_non, bd_ok, bd_exc, thenE_ok, thenE_exc, thenT_ok, thenT_exc, thenA_ok, thenI_ok, fl_nx, fl_ret, fl_exc, fl_bk, fl_ct, fl_nil, evSs_nil, asBl, asInt, un_non, un_bl, un_int, un_str, un_tup, un_lst, un_obj, un_un, fz, fzs, isSc, isScs, isFz, isFzs, isOwn, isOwns, dNeg, dT, tgA, setAll, okS, res, at2, it_tup, it_lst, chnD, lItems, tmps, cpyLoc, cpyTmp, ixTmp, ioPos, outFl, outsOf, fzs_ints, Pv.sto1, Pv.sto2, ownItems, at2_0, at2_1, at3_0, at3_1, at3_2, at4_0, at4_1, at4_2, at4_3, ix_20, ix_21, ix_40, ix_41, ix_42, ix_43, List.length_map, isFzs, d2_add, d2_sub, d2_lt, d2_le, d2_gt, d2_ge, d2_eq, d2_ne, d2_eqs, d2_eqb, d2_isn_non, d2_isn_int, d2_isn_bl, d2_isn_str, d2_isn_tup, d2_isn_lst, d2_notn_non, d2_notn_int, d2_notn_bl, d2_notn_str, d2_notn_tup, d2_notn_lst, d2_mod, d2_fdiv, Int.reduceToNat, Int.reducePow, Int.reduceEq, Int.reduceLT, Int.reduceLE, Int.reduceNeg, Int.reduceMul, Int.reduceAdd, Int.reduceSub, cst0, cst1, cst2, cst3, cst4, cst5, cst6, cst7, cst8, cst9, cst10, cst11, cst12, ne_eq, not_false_eq_true, not_true_eq_false, dF_gcd, dF_lenL, dF_lenT, dF_int, dF_intb, dF_abs, dF_min, dF_max, dI_ii, dI_ib, dI_is, dI_il, dI_it, dI_bi, dI_bb, dI_bs, dI_bl, dI_bt, dI_si, dI_sb, dI_ss, dI_sl, dI_st, dI_li, dI_lb, dI_ls, dI_ll, dI_lt, dI_ti, dI_tb, dI_ts, dI_tl, dI_tt, dI_ni, dI_nb, dI_ns, dI_nl, dI_nt, Option.map_some, List.length_cons, List.length_nil, List.getElem?_cons_zero, List.getElem?_cons_succ, List.getElem?_nil, List.set_cons_zero, List.set_cons_succ, List.set_nil, List.map_cons, List.map_nil, List.cons_append, List.nil_append, List.append_nil, List.replicate, List.getD_cons_zero, List.getD_cons_succ, List.contains_nil, List.contains_cons, Nat.reduceBEq, Bool.or_false, Bool.false_or, Bool.or_self, Bool.or_true, Bool.true_or, List.isEmpty_nil, List.isEmpty_cons, decide_true, decide_false, if_true, if_false, Bool.false_eq_true, Bool.not_true, Bool.not_false, Bool.and_true, Bool.true_and, Bool.and_self, Bool.and_false, Bool.false_and, reduceIte, Nat.zero_add, Nat.reduceAdd, Nat.reduceSub, Nat.reduceLT, Nat.reduceLeDiff, Nat.reduceEqDiff, decide_eq_true_eq, eq_self, Option.some.injEq, reduceCtorEq, Nat.lt_irrefl]
  rw [evSs_cons]; simp -implicitDefEqProofs only [evS, evT, evE, evP, evPs, evV, evA, evAnd, evOr, evI, Pv.a0, Pv.a1, Pv.v0, Pv.v1, opd, slotOf, satOp, Pv.two, Pv.one, ob_s, ob_n, sc_int, sc_bl, sc_str, sc_non, bd_ok, bd_exc, thenE_ok, thenE_exc, thenT_ok, thenT_exc, thenA_ok, thenI_ok, fl_nx, fl_ret, fl_exc, fl_bk, fl_ct, fl_nil, evSs_nil, asBl, asInt, un_non, un_bl, un_int, un_str, un_tup, un_lst, un_obj, un_un, fz, fzs, isSc, isScs, isFz, isFzs, isOwn, isOwns, dNeg, dT, tgA, setAll, okS, res, at2, it_tup, it_lst, chnD, lItems, tmps, cpyLoc, cpyTmp, ixTmp, ioPos, outFl, outsOf, fzs_ints, Pv.sto1, Pv.sto2, ownItems, at2_0, at2_1, at3_0, at3_1, at3_2, at4_0, at4_1, at4_2, at4_3, ix_20, ix_21, ix_40, ix_41, ix_42, ix_43, List.length_map, isFzs, d2_add, d2_sub, d2_lt, d2_le, d2_gt, d2_ge, d2_eq, d2_ne, d2_eqs, d2_eqb, d2_isn_non, d2_isn_int, d2_isn_bl, d2_isn_str, d2_isn_tup, d2_isn_lst, d2_notn_non, d2_notn_int, d2_notn_bl, d2_notn_str, d2_notn_tup, d2_notn_lst, d2_mod, d2_fdiv, Int.reduceToNat, Int.reducePow, Int.reduceEq, Int.reduceLT, Int.reduceLE, Int.reduceNeg, Int.reduceMul, Int.reduceAdd, Int.reduceSub, cst0, cst1, cst2, cst3, cst4, cst5, cst6, cst7, cst8, cst9, cst10, cst11, cst12, ne_eq, not_false_eq_true, not_true_eq_false, dF_gcd, dF_lenL, dF_lenT, dF_int, dF_intb, dF_abs, dF_min, dF_max, dI_ii, dI_ib, dI_is, dI_il, dI_it, dI_bi, dI_bb, dI_bs, dI_bl, dI_bt, dI_si, dI_sb, dI_ss, dI_sl, dI_st, dI_li, dI_lb, dI_ls, dI_ll, dI_lt, dI_ti, dI_tb, dI_ts, dI_tl, dI_tt, dI_ni, dI_nb, dI_ns, dI_nl, dI_nt, Option.map_some, List.length_cons, List.length_nil, List.getElem?_cons_zero, List.getElem?_cons_succ, List.getElem?_nil, List.set_cons_zero, List.set_cons_succ, List.set_nil, List.map_cons, List.map_nil, List.cons_append, List.nil_append, List.append_nil, List.replicate, List.getD_cons_zero, List.getD_cons_succ, List.contains_nil, List.contains_cons, Nat.reduceBEq, Bool.or_false, Bool.false_or, Bool.or_self, Bool.or_true, Bool.true_or, List.isEmpty_nil, List.isEmpty_cons, decide_true, decide_false, if_true, if_false, Bool.false_eq_true, Bool.not_true, Bool.not_false, Bool.and_true, Bool.true_and, Bool.and_self, Bool.and_false, Bool.false_and, reduceIte, Nat.zero_add, Nat.reduceAdd, Nat.reduceSub, Nat.reduceLT, Nat.reduceLeDiff, Nat.reduceEqDiff, decide_eq_true_eq, eq_self, Option.some.injEq, reduceCtorEq, Nat.lt_irrefl]
theorem hs_b (k : Nat) (b : Bool) : evFn 0 [false, false] 3 (b_L_same k) [.bl b, .bl b] = some (.ret (.bl true) []) := by
  unfold evFn b_L_same
  simp -implicitDefEqProofs only [evS, evT, evE, evP, evPs, evV, evA, evAnd, evOr, evI, Pv.a0, Pv.a1, Pv.v0, Pv.v1, opd, slotOf, satOp, Pv.two, Pv.one, ob_s, ob_n, sc_int, sc_bl, sc_str, sc_non, bd_ok, bd_exc, thenE_ok, thenE_exc, thenT_ok, thenT_exc, thenA_ok, thenI_ok, fl_nx, fl_ret, fl_exc, fl_bk, fl_ct, fl_nil, evSs_nil, asBl, asInt, un_non, un_bl, un_int, un_str, un_tup, un_lst, un_obj, un_un, fz, fzs, isSc, isScs, isFz, isFzs, isOwn, isOwns, dNeg, dT, tgA, setAll, okS, res, at2, it_tup, it_lst, chnD, lItems, tmps, cpyLoc, cpyTmp, ixTmp, ioPos, outFl, outsOf, fzs_ints, Pv.sto1, Pv.sto2, ownItems, at2_0, at2_1, at3_0, at3_1, at3_2, at4_0, at4_1, at4_2, at4_3, ix_20, ix_21, ix_40, ix_41, ix_42, ix_43, List.length_map, isFzs, d2_add, d2_sub, d2_lt, d2_le, d2_gt, d2_ge, d2_eq, d2_ne, d2_eqs, d2_eqb, d2_isn_non, d2_isn_int, d2_isn_bl, d2_isn_str, d2_isn_tup, d2_isn_lst, d2_notn_non, d2_notn_int, d2_notn_bl, d2_notn_str, d2_notn_tup, d2_notn_lst, d2_mod, d2_fdiv, Int.reduceToNat, Int.reducePow, Int.reduceEq, Int.reduceLT, Int.reduceLE, Int.reduceNeg, Int.reduceMul, Int.reduceAdd, Int.reduceSub, cst0, cst1, cst2, cst3, cst4, cst5, cst6, cst7, cst8, cst9, cst10, cst11, cst12, ne_eq, not_false_eq_true, not_true_eq_false, dF_gcd, dF_lenL, dF_lenT, dF_int, dF_intb, dF_abs, dF_min, dF_max, dI_ii, dI_ib, dI_is, dI_il, dI_it, dI_bi, dI_bb, dI_bs, dI_bl, dI_bt, dI_si, dI_sb, dI_ss, dI_sl, dI_st, dI_li, dI_lb, dI_ls, dI_ll, dI_lt, dI_ti, dI_tb, dI_ts, dI_tl, dI_tt, dI_ni, dI_nb, dI_ns, dI_nl, dI_nt, Option.map_some, List.length_cons, List.length_nil, List.getElem?_cons_zero, List.getElem?_cons_succ, List.getElem?_nil, List.set_cons_zero, List.set_cons_succ, List.set_nil, List.map_cons, List.map_nil, List.cons_append, List.nil_append, List.append_nil, List.replicate, List.getD_cons_zero, List.getD_cons_succ, List.contains_nil, List.contains_cons, Nat.reduceBEq, Bool.or_false, Bool.false_or, Bool.or_self, Bool.or_true, Bool.true_or, List.isEmpty_nil, List.isEmpty_cons, decide_true, decide_false, if_true, if_false, Bool.false_eq_true, Bool.not_true, Bool.not_false, Bool.and_true, Bool.true_and, Bool.and_self, Bool.and_false, Bool.false_and, reduceIte, Nat.zero_add, Nat.reduceAdd, Nat.reduceSub, Nat.reduceLT, Nat.reduceLeDiff, Nat.reduceEqDiff, decide_eq_true_eq, eq_self, Option.some.injEq, reduceCtorEq, Nat.lt_irrefl]
  rw [evSs_cons]; simp -implicitDefEqProofs only [evS, evT, evE, evP, evPs, evV, evA, evAnd, evOr, evI, Pv.a0, Pv.a1, Pv.v0, Pv.v1, opd, slotOf, satOp, Pv.two, Pv.one, ob_s, ob_n, sc_int, sc_bl, sc_str, sc_non, bd_ok, bd_exc, thenE_ok, thenE_exc, thenT_ok, thenT_exc, thenA_ok, thenI_ok, fl_nx, fl_ret, fl_exc, fl_bk, fl_ct, fl_nil, evSs_nil, asBl, asInt, un_non, un_bl, un_int, un_str, un_tup, un_lst, un_obj, un_un, fz, fzs, isSc, isScs, isFz, isFzs, isOwn, isOwns, dNeg, dT, tgA, setAll, okS, res, at2, it_tup, it_lst, chnD, lItems, tmps, cpyLoc, cpyTmp, ixTmp, ioPos, outFl, outsOf, fzs_ints, Pv.sto1, Pv.sto2, ownItems, at2_0, at2_1, at3_0, at3_1, at3_2, at4_0, at4_1, at4_2, at4_3, ix_20, ix_21, ix_40, ix_41, ix_42, ix_43, List.length_map, isFzs, d2_add, d2_sub, d2_lt, d2_le, d2_gt, d2_ge, d2_eq, d2_ne, d2_eqs, d2_eqb, d2_isn_non, d2_isn_int, d2_isn_bl, d2_isn_str, d2_isn_tup, d2_isn_lst, d2_notn_non, d2_notn_int, d2_notn_bl, d2_notn_str, d2_notn_tup, d2_notn_lst, d2_mod, d2_fdiv, Int.reduceToNat, Int.reducePow, Int.reduceEq, Int.reduceLT, Int.reduceLE, Int.reduceNeg, Int.reduceMul, Int.reduceAdd, Int.reduceSub, cst0, cst1, cst2, cst3, cst4, cst5, cst6, cst7, cst8, cst9, cst10, cst11, cst12, ne_eq, not_false_eq_true, not_true_eq_false, dF_gcd, dF_lenL, dF_lenT, dF_int, dF_intb, dF_abs, dF_min, dF_max, dI_ii, dI_ib, dI_is, dI_il, dI_it, dI_bi, dI_bb, dI_bs, dI_bl, dI_bt, dI_si, dI_sb, dI_ss, dI_sl, dI_st, dI_li, dI_lb, dI_ls, dI_ll, dI_lt, dI_ti, dI_tb, dI_ts, dI_tl, dI_tt, dI_ni, dI_nb, dI_ns, dI_nl, dI_nt, Option.map_some, List.length_cons, List.length_nil, List.getElem?_cons_zero, List.getElem?_cons_succ, List.getElem?_nil, List.set_cons_zero, List.set_cons_succ, List.set_nil, List.map_cons, List.map_nil, List.cons_append, List.nil_append, List.append_nil, List.replicate, List.getD_cons_zero, List.getD_cons_succ, List.contains_nil, List.contains_cons, Nat.reduceBEq, Bool.or_false, Bool.false_or, Bool.or_self, Bool.or_true, Bool.true_or, List.isEmpty_nil, List.isEmpty_cons, decide_true, decide_false, if_true, if_false, Bool.false_eq_true, Bool.not_true, Bool.not_false, Bool.and_true, Bool.true_and, Bool.and_self, Bool.and_false, Bool.false_and, reduceIte, Nat.zero_add, Nat.reduceAdd, Nat.reduceSub, Nat.reduceLT, Nat.reduceLeDiff, Nat.reduceEqDiff, decide_eq_true_eq, eq_self, Option.some.injEq, reduceCtorEq, Nat.lt_irrefl]
  rw [evSs_cons]; simp -implicitDefEqProofs only [evS, evT, evE, evP, evPs, evV, evA, evAnd, evOr, evI, Pv.a0, Pv.a1, Pv.v0, Pv.v1, opd, slotOf, satOp, Pv.two, Pv.one, ob_s, ob_n, sc_int, sc_bl, sc_str, sc_non, bd_ok, bd_exc, thenE_ok, thenE_exc, thenT_ok, thenT_exc, thenA_ok, thenI_ok, fl_nx, fl_ret, fl_exc, fl_bk, fl_ct, fl_nil, evSs_nil, asBl, asInt, un_non, un_bl, un_int, un_str, un_tup, un_lst, un_obj, un_un, fz, fzs, isSc, isScs, isFz, isFzs, isOwn, isOwns, dNeg, dT, tgA, setAll, okS, res, at2, it_tup, it_lst, chnD, lItems, tmps, cpyLoc, cpyTmp, ixTmp, ioPos, outFl, outsOf, fzs_ints, Pv.sto1, Pv.sto2, ownItems, at2_0, at2_1, at3_0, at3_1, at3_2, at4_0, at4_1, at4_2, at4_3, ix_20, ix_21, ix_40, ix_41, ix_42, ix_43, List.length_map, isFzs, d2_add, d2_sub, d2_lt, d2_le, d2_gt, d2_ge, d2_eq, d2_ne, d2_eqs, d2_eqb, d2_isn_non, d2_isn_int, d2_isn_bl, d2_isn_str, d2_isn_tup, d2_isn_lst, d2_notn_non, d2_notn_int, d2_notn_bl, d2_notn_str, d2_notn_tup, d2_notn_lst, d2_mod, d2_fdiv, Int.reduceToNat, Int.reducePow, Int.reduceEq, Int.reduceLT, Int.reduceLE, Int.reduceNeg, Int.reduceMul, Int.reduceAdd, Int.reduceSub, cst0, cst1, cst2, cst3, cst4, cst5, cst6, cst7, cst8, cst9, cst10, cst11, cst12, ne_eq, not_false_eq_true, not_true_eq_false, dF_gcd, dF_lenL, dF_lenT, dF_int, dF_intb, dF_abs, dF_min, dF_max, dI_ii, dI_ib, dI_is, dI_il, dI_it, dI_bi, dI_bb, dI_bs, dI_bl, dI_bt, dI_si, dI_sb, dI_ss, dI_sl, dI_st, dI_li, dI_lb, dI_ls, dI_ll, dI_lt, dI_ti, dI_tb, dI_ts, dI_tl, dI_tt, dI_ni, dI_nb, dI_ns, dI_nl, dI_nt, Option.map_some, List.length_cons, List.length_nil, List.getElem?_cons_zero, List.getElem?_cons_succ, List.getElem?_nil, List.set_cons_zero, List.set_cons_succ, List.set_nil, List.map_cons, List.map_nil, List.cons_append, List.nil_append, List.append_nil, List.replicate, List.getD_cons_zero, List.getD_cons_succ, List.contains_nil, List.contains_cons, Nat.reduceBEq, Bool.or_false, Bool.false_or, Bool.or_self, Bool.or_true, Bool.true_or, List.isEmpty_nil, List.isEmpty_cons, decide_true, decide_false, if_true, if_false, Bool.false_eq_true, Bool.not_true, Bool.not_false, Bool.and_true, Bool.true_and, Bool.and_self, Bool.and_false, Bool.false_and, reduceIte, Nat.zero_add, Nat.reduceAdd, Nat.reduceSub, Nat.reduceLT, Nat.reduceLeDiff, Nat.reduceEqDiff, decide_eq_true_eq, eq_self, Option.some.injEq, reduceCtorEq, Nat.lt_irrefl]
  rw [evSs_cons]; simp -implicitDefEqProofs only [evS, evT, evE, evP, evPs, evV, evA, evAnd, evOr, evI, Pv.a0, Pv.a1, Pv.v0, Pv.v1, opd, slotOf, satOp, Pv.two, Pv.one, ob_s, ob_n, sc_int, sc_bl, sc_str, sc_non, bd_ok, bd_exc, thenE_ok, thenE_exc, thenT_ok, thenT_exc, thenA_ok, thenI_ok, fl_nx, fl_ret, fl_exc, fl_bk, fl_ct, fl_nil, evSs_nil, asBl, asInt, un_non, un_bl, un_int, un_str, un_tup, un_lst, un_obj, un_un, fz, fzs, isSc, isScs, isFz, isFzs, isOwn, isOwns, dNeg, dT, tgA, setAll, okS, res, at2, it_tup, it_lst, chnD, lItems, tmps, cpyLoc, cpyTmp, ixTmp, ioPos, outFl, outsOf, fzs_ints, Pv.sto1, Pv.sto2, ownItems, at2_0, at2_1, at3_0, at3_1, at3_2, at4_0, at4_1, at4_2, at4_3, ix_20, ix_21, ix_40, ix_41, ix_42, ix_43, List.length_map, isFzs, d2_add, d2_sub, d2_lt, d2_le, d2_gt, d2_ge, d2_eq, d2_ne, d2_eqs, d2_eqb, d2_isn_non, d2_isn_int, d2_isn_bl, d2_isn_str, d2_isn_tup, d2_isn_lst, d2_notn_non, d2_notn_int, d2_notn_bl, d2_notn_str, d2_notn_tup, d2_notn_lst, d2_mod, d2_fdiv, Int.reduceToNat, Int.reducePow, Int.reduceEq, Int.reduceLT, Int.reduceLE, Int.reduceNeg, Int.reduceMul, Int.reduceAdd, Int.reduceSub, cst0, cst1, cst2, cst3, cst4, cst5, cst6, cst7, cst8, cst9, cst10, cst11, cst12, ne_eq, not_false_eq_true, not_true_eq_false, dF_gcd, dF_lenL, dF_lenT, dF_int, dF_intb, dF_abs, dF_min, dF_max, dI_ii, dI_ib, dI_is, dI_il, dI_it, dI_bi, dI_bb, dI_bs, dI_bl, dI_bt, dI_si, dI_sb, dI_ss, dI_sl, dI_st, dI_li, dI_lb, dI_ls, dI_ll, dI_lt, dI_ti, dI_tb, dI_ts, dI_tl, dI_tt, dI_ni, dI_nb, dI_ns, dI_nl, dI_nt, Option.map_some, List.length_cons, List.length_nil, List.getElem?_cons_zero, List.getElem?_cons_succ, List.getElem?_nil, List.set_cons_zero, List.set_cons_succ, List.set_nil, List.map_cons, List.map_nil, List.cons_append, List.nil_append, List.append_nil, List.replicate, List.getD_cons_zero, List.getD_cons_succ, List.contains_nil, List.contains_cons, Nat.reduceBEq, Bool.or_false, Bool.false_or, Bool.or_self, Bool.or_true, Bool.true_or, List.isEmpty_nil, List.isEmpty_cons, decide_true, decide_false, if_true, if_false, Bool.false_eq_true, Bool.not_true, Bool.not_false, Bool.and_true, Bool.true_and, Bool.and_self, Bool.and_false, Bool.false_and, reduceIte, Nat.zero_add, Nat.reduceAdd, Nat.reduceSub, Nat.reduceLT, Nat.reduceLeDiff, Nat.reduceEqDiff, decide_eq_true_eq, eq_self, Option.some.injEq, reduceCtorEq, Nat.lt_irrefl]
theorem hs_i (k : Nat) (i : Int) : evFn 0 [false, false] 3 (b_L_same k) [.int i, .int i] = some (.ret (.bl true) []) := by
  unfold evFn b_L_same
  simp -implicitDefEqProofs only [evS, evT, evE, evP, evPs, evV, evA, evAnd, evOr, evI, Pv.a0, Pv.a1, Pv.v0, Pv.v1, opd, slotOf, satOp, Pv.two, Pv.one, ob_s, ob_n, sc_int, sc_bl, sc_str, sc_non, bd_ok, bd_exc, thenE_ok, thenE_exc, thenT_ok, thenT_exc, thenA_ok, thenI_ok, fl_nx, fl_ret, fl_exc, fl_bk, fl_ct, fl_nil, evSs_nil, asBl, asInt, un_non, un_bl, un_int, un_str, un_tup, un_lst, un_obj, un_un, fz, fzs, isSc, isScs, isFz, isFzs, isOwn, isOwns, dNeg, dT, tgA, setAll, okS, res, at2, it_tup, it_lst, chnD, lItems, tmps, cpyLoc, cpyTmp, ixTmp, ioPos, outFl, outsOf, fzs_ints, Pv.sto1, Pv.sto2, ownItems, at2_0, at2_1, at3_0, at3_1, at3_2, at4_0, at4_1, at4_2, at4_3, ix_20, ix_21, ix_40, ix_41, ix_42, ix_43, List.length_map, isFzs, d2_add, d2_sub, d2_lt, d2_le, d2_gt, d2_ge, d2_eq, d2_ne, d2_eqs, d2_eqb, d2_isn_non, d2_isn_int, d2_isn_bl, d2_isn_str, d2_isn_tup, d2_isn_lst, d2_notn_non, d2_notn_int, d2_notn_bl, d2_notn_str, d2_notn_tup, d2_notn_lst, d2_mod, d2_fdiv, Int.reduceToNat, Int.reducePow, Int.reduceEq, Int.reduceLT, Int.reduceLE, Int.reduceNeg, Int.reduceMul, Int.reduceAdd, Int.reduceSub, cst0, cst1, cst2, cst3, cst4, cst5, cst6, cst7, cst8, cst9, cst10, cst11, cst12, ne_eq, not_false_eq_true, not_true_eq_false, dF_gcd, dF_lenL, dF_lenT, dF_int, dF_intb, dF_abs, dF_min, dF_max, dI_ii, dI_ib, dI_is, dI_il, dI_it, dI_bi, dI_bb, dI_bs, dI_bl, dI_bt, dI_si, dI_sb, dI_ss, dI_sl, dI_st, dI_li, dI_lb, dI_ls, dI_ll, dI_lt, dI_ti, dI_tb, dI_ts, dI_tl, dI_tt, dI_ni, dI_nb, dI_ns, dI_nl, dI_nt, Option.map_some, List.length_cons, List.length_nil, List.getElem?_cons_zero, List.getElem?_cons_succ, List.getElem?_nil, List.set_cons_zero, List.set_cons_succ, List.set_nil, List.map_cons, List.map_nil, List.cons_append, List.nil_append, List.append_nil, List.replicate, List.getD_cons_zero, List.getD_cons_succ, List.contains_nil, List.contains_cons, Nat.reduceBEq, Bool.or_false, Bool.false_or, Bool.or_self, Bool.or_true, Bool.true_or, List.isEmpty_nil, List.isEmpty_cons, decide_true, decide_false, if_true, if_false, Bool.false_eq_true, Bool.not_true, Bool.not_false, Bool.and_true, Bool.true_and, Bool.and_self, Bool.and_false, Bool.false_and, reduceIte, Nat.zero_add, Nat.reduceAdd, Nat.reduceSub, Nat.reduceLT, Nat.reduceLeDiff, Nat.reduceEqDiff, decide_eq_true_eq, eq_self, Option.some.injEq, reduceCtorEq, Nat.lt_irrefl]
  rw [evSs_cons]; simp -implicitDefEqProofs only [evS, evT, evE, evP, evPs, evV, evA, evAnd, evOr, evI, Pv.a0, Pv.a1, Pv.v0, Pv.v1, opd, slotOf, satOp, Pv.two, Pv.one, ob_s, ob_n, sc_int, sc_bl, sc_str, sc_non, bd_ok, bd_exc, thenE_ok, thenE_exc, thenT_ok, thenT_exc, thenA_ok, thenI_ok, fl_nx, fl_ret, fl_exc, fl_bk, fl_ct, fl_nil, evSs_nil, asBl, asInt, un_non, un_bl, un_int, un_str, un_tup, un_lst, un_obj, un_un, fz, fzs, isSc, isScs, isFz, isFzs, isOwn, isOwns, dNeg, dT, tgA, setAll, okS, res, at2, it_tup, it_lst, chnD, lItems, tmps, cpyLoc, cpyTmp, ixTmp, ioPos, outFl, outsOf, fzs_ints, Pv.sto1, Pv.sto2, ownItems, at2_0, at2_1, at3_0, at3_1, at3_2, at4_0, at4_1, at4_2, at4_3, ix_20, ix_21, ix_40, ix_41, ix_42, ix_43, List.length_map, isFzs, d2_add, d2_sub, d2_lt, d2_le, d2_gt, d2_ge, d2_eq, d2_ne, d2_eqs, d2_eqb, d2_isn_non, d2_isn_int, d2_isn_bl, d2_isn_str, d2_isn_tup, d2_isn_lst, d2_notn_non, d2_notn_int, d2_notn_bl, d2_notn_str, d2_notn_tup, d2_notn_lst, d2_mod, d2_fdiv, Int.reduceToNat, Int.reducePow, Int.reduceEq, Int.reduceLT, Int.reduceLE, Int.reduceNeg, Int.reduceMul, Int.reduceAdd, Int.reduceSub, cst0, cst1, cst2, cst3, cst4, cst5, cst6, cst7, cst8, cst9, cst10, cst11, cst12, ne_eq, not_false_eq_true, not_true_eq_false, dF_gcd, dF_lenL, dF_lenT, dF_int, dF_intb, dF_abs, dF_min, dF_max, dI_ii, dI_ib, dI_is, dI_il, dI_it, dI_bi, dI_bb, dI_bs, dI_bl, dI_bt, dI_si, dI_sb, dI_ss, dI_sl, dI_st, dI_li, dI_lb, dI_ls, dI_ll, dI_lt, dI_ti, dI_tb, dI_ts, dI_tl, dI_tt, dI_ni, dI_nb, dI_ns, dI_nl, dI_nt, Option.map_some, List.length_cons, List.length_nil, List.getElem?_cons_zero, List.getElem?_cons_succ, List.getElem?_nil, List.set_cons_zero, List.set_cons_succ, List.set_nil, List.map_cons, List.map_nil, List.cons_append, List.nil_append, List.append_nil, List.replicate, List.getD_cons_zero, List.getD_cons_succ, List.contains_nil, List.contains_cons, Nat.reduceBEq, Bool.or_false, Bool.false_or, Bool.or_self, Bool.or_true, Bool.true_or, List.isEmpty_nil, List.isEmpty_cons, decide_true, decide_false, if_true, if_false, Bool.false_eq_true, Bool.not_true, Bool.not_false, Bool.and_true, Bool.true_and, Bool.and_self, Bool.and_false, Bool.false_and, reduceIte, Nat.zero_add, Nat.reduceAdd, Nat.reduceSub, Nat.reduceLT, Nat.reduceLeDiff, Nat.reduceEqDiff, decide_eq_true_eq, eq_self, Option.some.injEq, reduceCtorEq, Nat.lt_irrefl]
  rw [evSs_cons]; simp -implicitDefEqProofs only [evS, evT, evE, evP, evPs, evV, evA, evAnd, evOr, evI, Pv.a0, Pv.a1, Pv.v0, Pv.v1, opd, slotOf, satOp, Pv.two, Pv.one, ob_s, ob_n, sc_int, sc_bl, sc_str, sc_non, bd_ok, bd_exc, thenE_ok, thenE_exc, thenT_ok, thenT_exc, thenA_ok, thenI_ok, fl_nx, fl_ret, fl_exc, fl_bk, fl_ct, fl_nil, evSs_nil, asBl, asInt, un_non, un_bl, un_int, un_str, un_tup, un_lst, un_obj, un_un, fz, fzs, isSc, isScs, isFz, isFzs, isOwn, isOwns, dNeg, dT, tgA, setAll, okS, res, at2, it_tup, it_lst, chnD, lItems, tmps, cpyLoc, cpyTmp, ixTmp, ioPos, outFl, outsOf, fzs_ints, Pv.sto1, Pv.sto2, ownItems, at2_0, at2_1, at3_0, at3_1, at3_2, at4_0, at4_1, at4_2, at4_3, ix_20, ix_21, ix_40, ix_41, ix_42, ix_43, List.length_map, isFzs, d2_add, d2_sub, d2_lt, d2_le, d2_gt, d2_ge, d2_eq, d2_ne, d2_eqs, d2_eqb, d2_isn_non, d2_isn_int, d2_isn_bl, d2_isn_str, d2_isn_tup, d2_isn_lst, d2_notn_non, d2_notn_int, d2_notn_bl, d2_notn_str, d2_notn_tup, d2_notn_lst, d2_mod, d2_fdiv, Int.reduceToNat, Int.reducePow, Int.reduceEq, Int.reduceLT, Int.reduceLE, Int.reduceNeg, Int.reduceMul, Int.reduceAdd, Int.reduceSub, cst0, cst1, cst2, cst3, cst4, cst5, cst6, cst7, cst8, cst9, cst10, cst11, cst12, ne_eq, not_false_eq_true, not_true_eq_false, dF_gcd, dF_lenL, dF_lenT, dF_int, dF_intb, dF_abs, dF_min, dF_max, dI_ii, dI_ib, dI_is, dI_il, dI_it, dI_bi, dI_bb, dI_bs, dI_bl, dI_bt, dI_si, dI_sb, dI_ss, dI_sl, dI_st, dI_li, dI_lb, dI_ls, dI_ll, dI_lt, dI_ti, dI_tb, dI_ts, dI_tl, dI_tt, dI_ni, dI_nb, dI_ns, dI_nl, dI_nt, Option.map_some, List.length_cons, List.length_nil, List.getElem?_cons_zero, List.getElem?_cons_succ, List.getElem?_nil, List.set_cons_zero, List.set_cons_succ, List.set_nil, List.map_cons, List.map_nil, List.cons_append, List.nil_append, List.append_nil, List.replicate, List.getD_cons_zero, List.getD_cons_succ, List.contains_nil, List.contains_cons, Nat.reduceBEq, Bool.or_false, Bool.false_or, Bool.or_self, Bool.or_true, Bool.true_or, List.isEmpty_nil, List.isEmpty_cons, decide_true, decide_false, if_true, if_false, Bool.false_eq_true, Bool.not_true, Bool.not_false, Bool.and_true, Bool.true_and, Bool.and_self, Bool.and_false, Bool.false_and, reduceIte, Nat.zero_add, Nat.reduceAdd, Nat.reduceSub, Nat.reduceLT, Nat.reduceLeDiff, Nat.reduceEqDiff, decide_eq_true_eq, eq_self, Option.some.injEq, reduceCtorEq, Nat.lt_irrefl]
  rw [evSs_cons]; simp -implicitDefEqProofs only [evS, evT, evE, evP, evPs, evV, evA, evAnd, evOr, evI, Pv.a0, Pv.a1, Pv.v0, Pv.v1, opd, slotOf, satOp, Pv.two, Pv.one, ob_s, ob_n, sc_int, sc_bl, sc_str, sc_non, bd_ok, bd_exc, thenE_ok, thenE_exc, thenT_ok, thenT_exc, thenA_ok, thenI_ok, fl_nx, fl_ret, fl_exc, fl_bk, fl_ct, fl_nil, evSs_nil, asBl, asInt, un_non, un_bl, un_int, un_str, un_tup, un_lst, un_obj, un_un, fz, fzs, isSc, isScs, isFz, isFzs, isOwn, isOwns, dNeg, dT, tgA, setAll, okS, res, at2, it_tup, it_lst, chnD, lItems, tmps, cpyLoc, cpyTmp, ixTmp, ioPos, outFl, outsOf, fzs_ints, Pv.sto1, Pv.sto2, ownItems, at2_0, at2_1, at3_0, at3_1, at3_2, at4_0, at4_1, at4_2, at4_3, ix_20, ix_21, ix_40, ix_41, ix_42, ix_43, List.length_map, isFzs, d2_add, d2_sub, d2_lt, d2_le, d2_gt, d2_ge, d2_eq, d2_ne, d2_eqs, d2_eqb, d2_isn_non, d2_isn_int, d2_isn_bl, d2_isn_str, d2_isn_tup, d2_isn_lst, d2_notn_non, d2_notn_int, d2_notn_bl, d2_notn_str, d2_notn_tup, d2_notn_lst, d2_mod, d2_fdiv, Int.reduceToNat, Int.reducePow, Int.reduceEq, Int.reduceLT, Int.reduceLE, Int.reduceNeg, Int.reduceMul, Int.reduceAdd, Int.reduceSub, cst0, cst1, cst2, cst3, cst4, cst5, cst6, cst7, cst8, cst9, cst10, cst11, cst12, ne_eq, not_false_eq_true, not_true_eq_false, dF_gcd, dF_lenL, dF_lenT, dF_int, dF_intb, dF_abs, dF_min, dF_max, dI_ii, dI_ib, dI_is, dI_il, dI_it, dI_bi, dI_bb, dI_bs, dI_bl, dI_bt, dI_si, dI_sb, dI_ss, dI_sl, dI_st, dI_li, dI_lb, dI_ls, dI_ll, dI_lt, dI_ti, dI_tb, dI_ts, dI_tl, dI_tt, dI_ni, dI_nb, dI_ns, dI_nl, dI_nt, Option.map_some, List.length_cons, List.length_nil, List.getElem?_cons_zero, List.getElem?_cons_succ, List.getElem?_nil, List.set_cons_zero, List.set_cons_succ, List.set_nil, List.map_cons, List.map_nil, List.cons_append, List.nil_append, List.append_nil, List.replicate, List.getD_cons_zero, List.getD_cons_succ, List.contains_nil, List.contains_cons, Nat.reduceBEq, Bool.or_false, Bool.false_or, Bool.or_self, Bool.or_true, Bool.true_or, List.isEmpty_nil, List.isEmpty_cons, decide_true, decide_false, if_true, if_false, Bool.false_eq_true, Bool.not_true, Bool.not_false, Bool.and_true, Bool.true_and, Bool.and_self, Bool.and_false, Bool.false_and, reduceIte, Nat.zero_add, Nat.reduceAdd, Nat.reduceSub, Nat.reduceLT, Nat.reduceLeDiff, Nat.reduceEqDiff, decide_eq_true_eq, eq_self, Option.some.injEq, reduceCtorEq, Nat.lt_irrefl, isint_loc (.int i) (by simp [tyName]), isIntD]
  rw [evSs_cons]; simp -implicitDefEqProofs only [evS, evT, evE, evP, evPs, evV, evA, evAnd, evOr, evI, Pv.a0, Pv.a1, Pv.v0, Pv.v1, opd, slotOf, satOp, Pv.two, Pv.one, ob_s, ob_n, sc_int, sc_bl, sc_str, sc_non, bd_ok, bd_exc, thenE_ok, thenE_exc, thenT_ok, thenT_exc, thenA_ok, thenI_ok, fl_nx, fl_ret, fl_exc, fl_bk, fl_ct, fl_nil, evSs_nil, asBl, asInt, un_non, un_bl, un_int, un_str, un_tup, un_lst, un_obj, un_un, fz, fzs, isSc, isScs, isFz, isFzs, isOwn, isOwns, dNeg, dT, tgA, setAll, okS, res, at2, it_tup, it_lst, chnD, lItems, tmps, cpyLoc, cpyTmp, ixTmp, ioPos, outFl, outsOf, fzs_ints, Pv.sto1, Pv.sto2, ownItems, at2_0, at2_1, at3_0, at3_1, at3_2, at4_0, at4_1, at4_2, at4_3, ix_20, ix_21, ix_40, ix_41, ix_42, ix_43, List.length_map, isFzs, d2_add, d2_sub, d2_lt, d2_le, d2_gt, d2_ge, d2_eq, d2_ne, d2_eqs, d2_eqb, d2_isn_non, d2_isn_int, d2_isn_bl, d2_isn_str, d2_isn_tup, d2_isn_lst, d2_notn_non, d2_notn_int, d2_notn_bl, d2_notn_str, d2_notn_tup, d2_notn_lst, d2_mod, d2_fdiv, Int.reduceToNat, Int.reducePow, Int.reduceEq, Int.reduceLT, Int.reduceLE, Int.reduceNeg, Int.reduceMul, Int.reduceAdd, Int.reduceSub, cst0, cst1, cst2, cst3, cst4, cst5, cst6, cst7, cst8, cst9, cst10, cst11, cst12, ne_eq, not_false_eq_true, not_true_eq_false, dF_gcd, dF_lenL, dF_lenT, dF_int, dF_intb, dF_abs, dF_min, dF_max, dI_ii, dI_ib, dI_is, dI_il, dI_it, dI_bi, dI_bb, dI_bs, dI_bl, dI_bt, dI_si, dI_sb, dI_ss, dI_sl, dI_st, dI_li, dI_lb, dI_ls, dI_ll, dI_lt, dI_ti, dI_tb, dI_ts, dI_tl, dI_tt, dI_ni, dI_nb, dI_ns, dI_nl, dI_nt, Option.map_some, List.length_cons, List.length_nil, List.getElem?_cons_zero, List.getElem?_cons_succ, List.getElem?_nil, List.set_cons_zero, List.set_cons_succ, List.set_nil, List.map_cons, List.map_nil, List.cons_append, List.nil_append, List.append_nil, List.replicate, List.getD_cons_zero, List.getD_cons_succ, List.contains_nil, List.contains_cons, Nat.reduceBEq, Bool.or_false, Bool.false_or, Bool.or_self, Bool.or_true, Bool.true_or, List.isEmpty_nil, List.isEmpty_cons, decide_true, decide_false, if_true, if_false, Bool.false_eq_true, Bool.not_true, Bool.not_false, Bool.and_true, Bool.true_and, Bool.and_self, Bool.and_false, Bool.false_and, reduceIte, Nat.zero_add, Nat.reduceAdd, Nat.reduceSub, Nat.reduceLT, Nat.reduceLeDiff, Nat.reduceEqDiff, decide_eq_true_eq, eq_self, Option.some.injEq, reduceCtorEq, Nat.lt_irrefl, isint_loc (.int i) (by simp [tyName]), isIntD]
theorem hs_s (k : Nat) (i : Str) : evFn 0 [false, false] 3 (b_L_same k) [.str i, .str i] = some (.ret (.bl true) []) := by
  unfold evFn b_L_same
  simp -implicitDefEqProofs only [evS, evT, evE, evP, evPs, evV, evA, evAnd, evOr, evI, Pv.a0, Pv.a1, Pv.v0, Pv.v1, opd, slotOf, satOp, Pv.two, Pv.one, ob_s, ob_n, sc_int, sc_bl, sc_str, sc_non, bd_ok, bd_exc, thenE_ok, thenE_exc, thenT_ok, thenT_exc, thenA_ok, thenI_ok, fl_nx, fl_ret, fl_exc, fl_bk, fl_ct, fl_nil, evSs_nil, asBl, asInt, un_non, un_bl, un_int, un_str, un_tup, un_lst, un_obj, un_un, fz, fzs, isSc, isScs, isFz, isFzs, isOwn, isOwns, dNeg, dT, tgA, setAll, okS, res, at2, it_tup, it_lst, chnD, lItems, tmps, cpyLoc, cpyTmp, ixTmp, ioPos, outFl, outsOf, fzs_ints, Pv.sto1, Pv.sto2, ownItems, at2_0, at2_1, at3_0, at3_1, at3_2, at4_0, at4_1, at4_2, at4_3, ix_20, ix_21, ix_40, ix_41, ix_42, ix_43, List.length_map, isFzs, d2_add, d2_sub, d2_lt, d2_le, d2_gt, d2_ge, d2_eq, d2_ne, d2_eqs, d2_eqb, d2_isn_non, d2_isn_int, d2_isn_bl, d2_isn_str, d2_isn_tup, d2_isn_lst, d2_notn_non, d2_notn_int, d2_notn_bl, d2_notn_str, d2_notn_tup, d2_notn_lst, d2_mod, d2_fdiv, Int.reduceToNat, Int.reducePow, Int.reduceEq, Int.reduceLT, Int.reduceLE, Int.reduceNeg, Int.reduceMul, Int.reduceAdd, Int.reduceSub, cst0, cst1, cst2, cst3, cst4, cst5, cst6, cst7, cst8, cst9, cst10, cst11, cst12, ne_eq, not_false_eq_true, not_true_eq_false, dF_gcd, dF_lenL, dF_lenT, dF_int, dF_intb, dF_abs, dF_min, dF_max, dI_ii, dI_ib, dI_is, dI_il, dI_it, dI_bi, dI_bb, dI_bs, dI_bl, dI_bt, dI_si, dI_sb, dI_ss, dI_sl, dI_st, dI_li, dI_lb, dI_ls, dI_ll, dI_lt, dI_ti, dI_tb, dI_ts, dI_tl, dI_tt, dI_ni, dI_nb, dI_ns, dI_nl, dI_nt, Option.map_some, List.length_cons, List.length_nil, List.getElem?_cons_zero, List.getElem?_cons_succ, List.getElem?_nil, List.set_cons_zero, List.set_cons_succ, List.set_nil, List.map_cons, List.map_nil, List.cons_append, List.nil_append, List.append_nil, List.replicate, List.getD_cons_zero, List.getD_cons_succ, List.contains_nil, List.contains_cons, Nat.reduceBEq, Bool.or_false, Bool.false_or, Bool.or_self, Bool.or_true, Bool.true_or, List.isEmpty_nil, List.isEmpty_cons, decide_true, decide_false, if_true, if_false, Bool.false_eq_true, Bool.not_true, Bool.not_false, Bool.and_true, Bool.true_and, Bool.and_self, Bool.and_false, Bool.false_and, reduceIte, Nat.zero_add, Nat.reduceAdd, Nat.reduceSub, Nat.reduceLT, Nat.reduceLeDiff, Nat.reduceEqDiff, decide_eq_true_eq, eq_self, Option.some.injEq, reduceCtorEq, Nat.lt_irrefl]
  rw [evSs_cons]; simp -implicitDefEqProofs only [evS, evT, evE, evP, evPs, evV, evA, evAnd, evOr, evI, Pv.a0, Pv.a1, Pv.v0, Pv.v1, opd, slotOf, satOp, Pv.two, Pv.one, ob_s, ob_n, sc_int, sc_bl, sc_str, sc_non, bd_ok, bd_exc, thenE_ok, thenE_exc, thenT_ok, thenT_exc, thenA_ok, thenI_ok, fl_nx, fl_ret, fl_exc, fl_bk, fl_ct, fl_nil, evSs_nil, asBl, asInt, un_non, un_bl, un_int, un_str, un_tup, un_lst, un_obj, un_un, fz, fzs, isSc, isScs, isFz, isFzs, isOwn, isOwns, dNeg, dT, tgA, setAll, okS, res, at2, it_tup, it_lst, chnD, lItems, tmps, cpyLoc, cpyTmp, ixTmp, ioPos, outFl, outsOf, fzs_ints, Pv.sto1, Pv.sto2, ownItems, at2_0, at2_1, at3_0, at3_1, at3_2, at4_0, at4_1, at4_2, at4_3, ix_20, ix_21, ix_40, ix_41, ix_42, ix_43, List.length_map, isFzs, d2_add, d2_sub, d2_lt, d2_le, d2_gt, d2_ge, d2_eq, d2_ne, d2_eqs, d2_eqb, d2_isn_non, d2_isn_int, d2_isn_bl, d2_isn_str, d2_isn_tup, d2_isn_lst, d2_notn_non, d2_notn_int, d2_notn_bl, d2_notn_str, d2_notn_tup, d2_notn_lst, d2_mod, d2_fdiv, Int.reduceToNat, Int.reducePow, Int.reduceEq, Int.reduceLT, Int.reduceLE, Int.reduceNeg, Int.reduceMul, Int.reduceAdd, Int.reduceSub, cst0, cst1, cst2, cst3, cst4, cst5, cst6, cst7, cst8, cst9, cst10, cst11, cst12, ne_eq, not_false_eq_true, not_true_eq_false, dF_gcd, dF_lenL, dF_lenT, dF_int, dF_intb, dF_abs, dF_min, dF_max, dI_ii, dI_ib, dI_is, dI_il, dI_it, dI_bi, dI_bb, dI_bs, dI_bl, dI_bt, dI_si, dI_sb, dI_ss, dI_sl, dI_st, dI_li, dI_lb, dI_ls, dI_ll, dI_lt, dI_ti, dI_tb, dI_ts, dI_tl, dI_tt, dI_ni, dI_nb, dI_ns, dI_nl, dI_nt, Option.map_some, List.length_cons, List.length_nil, List.getElem?_cons_zero, List.getElem?_cons_succ, List.getElem?_nil, List.set_cons_zero, List.set_cons_succ, List.set_nil, List.map_cons, List.map_nil, List.cons_append, List.nil_append, List.append_nil, List.replicate, List.getD_cons_zero, List.getD_cons_succ, List.contains_nil, List.contains_cons, Nat.reduceBEq, Bool.or_false, Bool.false_or, Bool.or_self, Bool.or_true, Bool.true_or, List.isEmpty_nil, List.isEmpty_cons, decide_true, decide_false, if_true, if_false, Bool.false_eq_true, Bool.not_true, Bool.not_false, Bool.and_true, Bool.true_and, Bool.and_self, Bool.and_false, Bool.false_and, reduceIte, Nat.zero_add, Nat.reduceAdd, Nat.reduceSub, Nat.reduceLT, Nat.reduceLeDiff, Nat.reduceEqDiff, decide_eq_true_eq, eq_self, Option.some.injEq, reduceCtorEq, Nat.lt_irrefl]
  rw [evSs_cons]; simp -implicitDefEqProofs only [evS, evT, evE, evP, evPs, evV, evA, evAnd, evOr, evI, Pv.a0, Pv.a1, Pv.v0, Pv.v1, opd, slotOf, satOp, Pv.two, Pv.one, ob_s, ob_n, sc_int, sc_bl, sc_str, sc_non, bd_ok, bd_exc, thenE_ok, thenE_exc, thenT_ok, thenT_exc, thenA_ok, thenI_ok, fl_nx, fl_ret, fl_exc, fl_bk, fl_ct, fl_nil, evSs_nil, asBl, asInt, un_non, un_bl, un_int, un_str, un_tup, un_lst, un_obj, un_un, fz, fzs, isSc, isScs, isFz, isFzs, isOwn, isOwns, dNeg, dT, tgA, setAll, okS, res, at2, it_tup, it_lst, chnD, lItems, tmps, cpyLoc, cpyTmp, ixTmp, ioPos, outFl, outsOf, fzs_ints, Pv.sto1, Pv.sto2, ownItems, at2_0, at2_1, at3_0, at3_1, at3_2, at4_0, at4_1, at4_2, at4_3, ix_20, ix_21, ix_40, ix_41, ix_42, ix_43, List.length_map, isFzs, d2_add, d2_sub, d2_lt, d2_le, d2_gt, d2_ge, d2_eq, d2_ne, d2_eqs, d2_eqb, d2_isn_non, d2_isn_int, d2_isn_bl, d2_isn_str, d2_isn_tup, d2_isn_lst, d2_notn_non, d2_notn_int, d2_notn_bl, d2_notn_str, d2_notn_tup, d2_notn_lst, d2_mod, d2_fdiv, Int.reduceToNat, Int.reducePow, Int.reduceEq, Int.reduceLT, Int.reduceLE, Int.reduceNeg, Int.reduceMul, Int.reduceAdd, Int.reduceSub, cst0, cst1, cst2, cst3, cst4, cst5, cst6, cst7, cst8, cst9, cst10, cst11, cst12, ne_eq, not_false_eq_true, not_true_eq_false, dF_gcd, dF_lenL, dF_lenT, dF_int, dF_intb, dF_abs, dF_min, dF_max, dI_ii, dI_ib, dI_is, dI_il, dI_it, dI_bi, dI_bb, dI_bs, dI_bl, dI_bt, dI_si, dI_sb, dI_ss, dI_sl, dI_st, dI_li, dI_lb, dI_ls, dI_ll, dI_lt, dI_ti, dI_tb, dI_ts, dI_tl, dI_tt, dI_ni, dI_nb, dI_ns, dI_nl, dI_nt, Option.map_some, List.length_cons, List.length_nil, List.getElem?_cons_zero, List.getElem?_cons_succ, List.getElem?_nil, List.set_cons_zero, List.set_cons_succ, List.set_nil, List.map_cons, List.map_nil, List.cons_append, List.nil_append, List.append_nil, List.replicate, List.getD_cons_zero, List.getD_cons_succ, List.contains_nil, List.contains_cons, Nat.reduceBEq, Bool.or_false, Bool.false_or, Bool.or_self, Bool.or_true, Bool.true_or, List.isEmpty_nil, List.isEmpty_cons, decide_true, decide_false, if_true, if_false, Bool.false_eq_true, Bool.not_true, Bool.not_false, Bool.and_true, Bool.true_and, Bool.and_self, Bool.and_false, Bool.false_and, reduceIte, Nat.zero_add, Nat.reduceAdd, Nat.reduceSub, Nat.reduceLT, Nat.reduceLeDiff, Nat.reduceEqDiff, decide_eq_true_eq, eq_self, Option.some.injEq, reduceCtorEq, Nat.lt_irrefl]
  rw [evSs_cons]; simp -implicitDefEqProofs only [evS, evT, evE, evP, evPs, evV, evA, evAnd, evOr, evI, Pv.a0, Pv.a1, Pv.v0, Pv.v1, opd, slotOf, satOp, Pv.two, Pv.one, ob_s, ob_n, sc_int, sc_bl, sc_str, sc_non, bd_ok, bd_exc, thenE_ok, thenE_exc, thenT_ok, thenT_exc, thenA_ok, thenI_ok, fl_nx, fl_ret, fl_exc, fl_bk, fl_ct, fl_nil, evSs_nil, asBl, asInt, un_non, un_bl, un_int, un_str, un_tup, un_lst, un_obj, un_un, fz, fzs, isSc, isScs, isFz, isFzs, isOwn, isOwns, dNeg, dT, tgA, setAll, okS, res, at2, it_tup, it_lst, chnD, lItems, tmps, cpyLoc, cpyTmp, ixTmp, ioPos, outFl, outsOf, fzs_ints, Pv.sto1, Pv.sto2, ownItems, at2_0, at2_1, at3_0, at3_1, at3_2, at4_0, at4_1, at4_2, at4_3, ix_20, ix_21, ix_40, ix_41, ix_42, ix_43, List.length_map, isFzs, d2_add, d2_sub, d2_lt, d2_le, d2_gt, d2_ge, d2_eq, d2_ne, d2_eqs, d2_eqb, d2_isn_non, d2_isn_int, d2_isn_bl, d2_isn_str, d2_isn_tup, d2_isn_lst, d2_notn_non, d2_notn_int, d2_notn_bl, d2_notn_str, d2_notn_tup, d2_notn_lst, d2_mod, d2_fdiv, Int.reduceToNat, Int.reducePow, Int.reduceEq, Int.reduceLT, Int.reduceLE, Int.reduceNeg, Int.reduceMul, Int.reduceAdd, Int.reduceSub, cst0, cst1, cst2, cst3, cst4, cst5, cst6, cst7, cst8, cst9, cst10, cst11, cst12, ne_eq, not_false_eq_true, not_true_eq_false, dF_gcd, dF_lenL, dF_lenT, dF_int, dF_intb, dF_abs, dF_min, dF_max, dI_ii, dI_ib, dI_is, dI_il, dI_it, dI_bi, dI_bb, dI_bs, dI_bl, dI_bt, dI_si, dI_sb, dI_ss, dI_sl, dI_st, dI_li, dI_lb, dI_ls, dI_ll, dI_lt, dI_ti, dI_tb, dI_ts, dI_tl, dI_tt, dI_ni, dI_nb, dI_ns, dI_nl, dI_nt, Option.map_some, List.length_cons, List.length_nil, List.getElem?_cons_zero, List.getElem?_cons_succ, List.getElem?_nil, List.set_cons_zero, List.set_cons_succ, List.set_nil, List.map_cons, List.map_nil, List.cons_append, List.nil_append, List.append_nil, List.replicate, List.getD_cons_zero, List.getD_cons_succ, List.contains_nil, List.contains_cons, Nat.reduceBEq, Bool.or_false, Bool.false_or, Bool.or_self, Bool.or_true, Bool.true_or, List.isEmpty_nil, List.isEmpty_cons, decide_true, decide_false, if_true, if_false, Bool.false_eq_true, Bool.not_true, Bool.not_false, Bool.and_true, Bool.true_and, Bool.and_self, Bool.and_false, Bool.false_and, reduceIte, Nat.zero_add, Nat.reduceAdd, Nat.reduceSub, Nat.reduceLT, Nat.reduceLeDiff, Nat.reduceEqDiff, decide_eq_true_eq, eq_self, Option.some.injEq, reduceCtorEq, Nat.lt_irrefl]
  rw [evSs_cons]; simp -implicitDefEqProofs only [evS, evT, evE, evP, evPs, evV, evA, evAnd, evOr, evI, Pv.a0, Pv.a1, Pv.v0, Pv.v1, opd, slotOf, satOp, Pv.two, Pv.one, ob_s, ob_n, sc_int, sc_bl, sc_str, sc_non, bd_ok, bd_exc, thenE_ok, thenE_exc, thenT_ok, thenT_exc, thenA_ok, thenI_ok, fl_nx, fl_ret, fl_exc, fl_bk, fl_ct, fl_nil, evSs_nil, asBl, asInt, un_non, un_bl, un_int, un_str, un_tup, un_lst, un_obj, un_un, fz, fzs, isSc, isScs, isFz, isFzs, isOwn, isOwns, dNeg, dT, tgA, setAll, okS, res, at2, it_tup, it_lst, chnD, lItems, tmps, cpyLoc, cpyTmp, ixTmp, ioPos, outFl, outsOf, fzs_ints, Pv.sto1, Pv.sto2, ownItems, at2_0, at2_1, at3_0, at3_1, at3_2, at4_0, at4_1, at4_2, at4_3, ix_20, ix_21, ix_40, ix_41, ix_42, ix_43, List.length_map, isFzs, d2_add, d2_sub, d2_lt, d2_le, d2_gt, d2_ge, d2_eq, d2_ne, d2_eqs, d2_eqb, d2_isn_non, d2_isn_int, d2_isn_bl, d2_isn_str, d2_isn_tup, d2_isn_lst, d2_notn_non, d2_notn_int, d2_notn_bl, d2_notn_str, d2_notn_tup, d2_notn_lst, d2_mod, d2_fdiv, Int.reduceToNat, Int.reducePow, Int.reduceEq, Int.reduceLT, Int.reduceLE, Int.reduceNeg, Int.reduceMul, Int.reduceAdd, Int.reduceSub, cst0, cst1, cst2, cst3, cst4, cst5, cst6, cst7, cst8, cst9, cst10, cst11, cst12, ne_eq, not_false_eq_true, not_true_eq_false, dF_gcd, dF_lenL, dF_lenT, dF_int, dF_intb, dF_abs, dF_min, dF_max, dI_ii, dI_ib, dI_is, dI_il, dI_it, dI_bi, dI_bb, dI_bs, dI_bl, dI_bt, dI_si, dI_sb, dI_ss, dI_sl, dI_st, dI_li, dI_lb, dI_ls, dI_ll, dI_lt, dI_ti, dI_tb, dI_ts, dI_tl, dI_tt, dI_ni, dI_nb, dI_ns, dI_nl, dI_nt, Option.map_some, List.length_cons, List.length_nil, List.getElem?_cons_zero, List.getElem?_cons_succ, List.getElem?_nil, List.set_cons_zero, List.set_cons_succ, List.set_nil, List.map_cons, List.map_nil, List.cons_append, List.nil_append, List.append_nil, List.replicate, List.getD_cons_zero, List.getD_cons_succ, List.contains_nil, List.contains_cons, Nat.reduceBEq, Bool.or_false, Bool.false_or, Bool.or_self, Bool.or_true, Bool.true_or, List.isEmpty_nil, List.isEmpty_cons, decide_true, decide_false, if_true, if_false, Bool.false_eq_true, Bool.not_true, Bool.not_false, Bool.and_true, Bool.true_and, Bool.and_self, Bool.and_false, Bool.false_and, reduceIte, Nat.zero_add, Nat.reduceAdd, Nat.reduceSub, Nat.reduceLT, Nat.reduceLeDiff, Nat.reduceEqDiff, decide_eq_true_eq, eq_self, Option.some.injEq, reduceCtorEq, Nat.lt_irrefl]
  rw [evSs_cons]; simp -implicitDefEqProofs only [evS, evT, evE, evP, evPs, evV, evA, evAnd, evOr, evI, Pv.a0, Pv.a1, Pv.v0, Pv.v1, opd, slotOf, satOp, Pv.two, Pv.one, ob_s, ob_n, sc_int, sc_bl, sc_str, sc_non, bd_ok, bd_exc, thenE_ok, thenE_exc, thenT_ok, thenT_exc, thenA_ok, thenI_ok, fl_nx, fl_ret, fl_exc, fl_bk, fl_ct, fl_nil, evSs_nil, asBl, asInt, un_non, un_bl, un_int, un_str, un_tup, un_lst, un_obj, un_un, fz, fzs, isSc, isScs, isFz, isFzs, isOwn, isOwns, dNeg, dT, tgA, setAll, okS, res, at2, it_tup, it_lst, chnD, lItems, tmps, cpyLoc, cpyTmp, ixTmp, ioPos, outFl, outsOf, fzs_ints, Pv.sto1, Pv.sto2, ownItems, at2_0, at2_1, at3_0, at3_1, at3_2, at4_0, at4_1, at4_2, at4_3, ix_20, ix_21, ix_40, ix_41, ix_42, ix_43, List.length_map, isFzs, d2_add, d2_sub, d2_lt, d2_le, d2_gt, d2_ge, d2_eq, d2_ne, d2_eqs, d2_eqb, d2_isn_non, d2_isn_int, d2_isn_bl, d2_isn_str, d2_isn_tup, d2_isn_lst, d2_notn_non, d2_notn_int, d2_notn_bl, d2_notn_str, d2_notn_tup, d2_notn_lst, d2_mod, d2_fdiv, Int.reduceToNat, Int.reducePow, Int.reduceEq, Int.reduceLT, Int.reduceLE, Int.reduceNeg, Int.reduceMul, Int.reduceAdd, Int.reduceSub, cst0, cst1, cst2, cst3, cst4, cst5, cst6, cst7, cst8, cst9, cst10, cst11, cst12, ne_eq, not_false_eq_true, not_true_eq_false, dF_gcd, dF_lenL, dF_lenT, dF_int, dF_intb, dF_abs, dF_min, dF_max, dI_ii, dI_ib, dI_is, dI_il, dI_it, dI_bi, dI_bb, dI_bs, dI_bl, dI_bt, dI_si, dI_sb, dI_ss, dI_sl, dI_st, dI_li, dI_lb, dI_ls, dI_ll, dI_lt, dI_ti, dI_tb, dI_ts, dI_tl, dI_tt, dI_ni, dI_nb, dI_ns, dI_nl, dI_nt, Option.map_some, List.length_cons, List.length_nil, List.getElem?_cons_zero, List.getElem?_cons_succ, List.getElem?_nil, List.set_cons_zero, List.set_cons_succ, List.set_nil, List.map_cons, List.map_nil, List.cons_append, List.nil_append, List.append_nil, List.replicate, List.getD_cons_zero, List.getD_cons_succ, List.contains_nil, List.contains_cons, Nat.reduceBEq, Bool.or_false, Bool.false_or, Bool.or_self, Bool.or_true, Bool.true_or, List.isEmpty_nil, List.isEmpty_cons, decide_true, decide_false, if_true, if_false, Bool.false_eq_true, Bool.not_true, Bool.not_false, Bool.and_true, Bool.true_and, Bool.and_self, Bool.and_false, Bool.false_and, reduceIte, Nat.zero_add, Nat.reduceAdd, Nat.reduceSub, Nat.reduceLT, Nat.reduceLeDiff, Nat.reduceEqDiff, decide_eq_true_eq, eq_self, Option.some.injEq, reduceCtorEq, Nat.lt_irrefl]
theorem d2_nes (i : Int) : d2 .ne (.int i) (.int i) = some (.bl false) := by simp [d2]
theorem q1 (xs : List D) (hz : fzs xs = xs) : evP (.fnc .len (.cons (.var 0) (.nil))) [.tup xs, .tup xs, .un] = some (.int xs.length) := by
  simp only [evP, evPs, ob_s, List.getElem?_cons_zero, un_tup, Bool.false_eq_true, if_false, fz, hz, dF_lenT, sc_int]
theorem q2 (xs : List D) (hz : fzs xs = xs) : evP (.fnc .len (.cons (.var 1) (.nil))) [.tup xs, .tup xs, .un] = some (.int xs.length) := by
  simp only [evP, evPs, ob_s, List.getElem?_cons_zero, List.getElem?_cons_succ, un_tup, Bool.false_eq_true, if_false, fz, hz, dF_lenT, sc_int]
theorem q3 (xs : List D) (hz : fzs xs = xs) : evT (.pk (.op2 .ne (.fnc .len (.cons (.var 0) (.nil))) (.fnc .len (.cons (.var 1) (.nil))))) [.tup xs, .tup xs, .un] = some (.ok false [.tup xs, .tup xs, .un]) := by
  have e : evP (.op2 .ne (.fnc .len (.cons (.var 0) (.nil))) (.fnc .len (.cons (.var 1) (.nil)))) [.tup xs, .tup xs, .un] = some (.bl false) := by
    rw [evP, q1 xs hz, ob_s, q2 xs hz, ob_s, d2_nes]; rfl
  unfold evT
  rw [evE, e]
  rfl
theorem ql1 (xs : List D) (hz : fzs xs = xs) : evP (.fnc .len (.cons (.var 0) (.nil))) [.lst false xs, .lst false xs, .un] = some (.int xs.length) := by
  simp only [evP, evPs, ob_s, List.getElem?_cons_zero, un_lst, Bool.false_eq_true, if_false, fz, hz, dF_lenL, sc_int]
theorem ql2 (xs : List D) (hz : fzs xs = xs) : evP (.fnc .len (.cons (.var 1) (.nil))) [.lst false xs, .lst false xs, .un] = some (.int xs.length) := by
  simp only [evP, evPs, ob_s, List.getElem?_cons_zero, List.getElem?_cons_succ, un_lst, Bool.false_eq_true, if_false, fz, hz, dF_lenL, sc_int]
theorem ql3 (xs : List D) (hz : fzs xs = xs) : evT (.pk (.op2 .ne (.fnc .len (.cons (.var 0) (.nil))) (.fnc .len (.cons (.var 1) (.nil))))) [.lst false xs, .lst false xs, .un] = some (.ok false [.lst false xs, .lst false xs, .un]) := by
  have e : evP (.op2 .ne (.fnc .len (.cons (.var 0) (.nil))) (.fnc .len (.cons (.var 1) (.nil)))) [.lst false xs, .lst false xs, .un] = some (.bl false) := by
    rw [evP, ql1 xs hz, ob_s, ql2 xs hz, ob_s, d2_nes]; rfl
  unfold evT
  rw [evE, e]
  rfl
theorem rngB_len {n : Nat} (h : n ≤ 1000) : rngB (n : Int) = true := by
  unfold rngB
  simp only [Bool.and_eq_true, decide_eq_true_eq]
  omega
theorem hs_t (k : Nat) (xs : List D) (hl : xs.length ≤ 1000) (hp : plains k xs = true) : evFn 0 [false, false] 3 (b_L_same k) [.tup xs, .tup xs] = some (.ret (.bl true) []) := by
  obtain ⟨x', e⟩ := same_loop (k := k) (T := .tup xs) rfl rfl hp (List.range xs.length) .un fun j hj => List.mem_range.mp hj
  have hz := fzs_id xs (plains_fz xs hp)
  have hr := rngB_len hl
  have ht : (xs.length : Int).toNat = xs.length := Int.toNat_natCast _
  unfold evFn b_L_same
  simp -implicitDefEqProofs only [evS, evT, evE, evP, evPs, evV, evA, evAnd, evOr, evI, Pv.a0, Pv.a1, Pv.v0, Pv.v1, opd, slotOf, satOp, Pv.two, Pv.one, ob_s, ob_n, sc_int, sc_bl, sc_str, sc_non, bd_ok, bd_exc, thenE_ok, thenE_exc, thenT_ok, thenT_exc, thenA_ok, thenI_ok, fl_nx, fl_ret, fl_exc, fl_bk, fl_ct, fl_nil, evSs_nil, asBl, asInt, un_non, un_bl, un_int, un_str, un_tup, un_lst, un_obj, un_un, fz, fzs, isSc, isScs, isFz, isFzs, isOwn, isOwns, dNeg, dT, tgA, setAll, okS, res, at2, it_tup, it_lst, chnD, lItems, tmps, cpyLoc, cpyTmp, ixTmp, ioPos, outFl, outsOf, fzs_ints, Pv.sto1, Pv.sto2, ownItems, at2_0, at2_1, at3_0, at3_1, at3_2, at4_0, at4_1, at4_2, at4_3, ix_20, ix_21, ix_40, ix_41, ix_42, ix_43, List.length_map, isFzs, d2_add, d2_sub, d2_lt, d2_le, d2_gt, d2_ge, d2_eq, d2_ne, d2_eqs, d2_eqb, d2_isn_non, d2_isn_int, d2_isn_bl, d2_isn_str, d2_isn_tup, d2_isn_lst, d2_notn_non, d2_notn_int, d2_notn_bl, d2_notn_str, d2_notn_tup, d2_notn_lst, d2_mod, d2_fdiv, Int.reduceToNat, Int.reducePow, Int.reduceEq, Int.reduceLT, Int.reduceLE, Int.reduceNeg, Int.reduceMul, Int.reduceAdd, Int.reduceSub, cst0, cst1, cst2, cst3, cst4, cst5, cst6, cst7, cst8, cst9, cst10, cst11, cst12, ne_eq, not_false_eq_true, not_true_eq_false, dF_gcd, dF_lenL, dF_lenT, dF_int, dF_intb, dF_abs, dF_min, dF_max, dI_ii, dI_ib, dI_is, dI_il, dI_it, dI_bi, dI_bb, dI_bs, dI_bl, dI_bt, dI_si, dI_sb, dI_ss, dI_sl, dI_st, dI_li, dI_lb, dI_ls, dI_ll, dI_lt, dI_ti, dI_tb, dI_ts, dI_tl, dI_tt, dI_ni, dI_nb, dI_ns, dI_nl, dI_nt, Option.map_some, List.length_cons, List.length_nil, List.getElem?_cons_zero, List.getElem?_cons_succ, List.getElem?_nil, List.set_cons_zero, List.set_cons_succ, List.set_nil, List.map_cons, List.map_nil, List.cons_append, List.nil_append, List.append_nil, List.replicate, List.getD_cons_zero, List.getD_cons_succ, List.contains_nil, List.contains_cons, Nat.reduceBEq, Bool.or_false, Bool.false_or, Bool.or_self, Bool.or_true, Bool.true_or, List.isEmpty_nil, List.isEmpty_cons, decide_true, decide_false, if_true, if_false, Bool.false_eq_true, Bool.not_true, Bool.not_false, Bool.and_true, Bool.true_and, Bool.and_self, Bool.and_false, Bool.false_and, reduceIte, Nat.zero_add, Nat.reduceAdd, Nat.reduceSub, Nat.reduceLT, Nat.reduceLeDiff, Nat.reduceEqDiff, decide_eq_true_eq, eq_self, Option.some.injEq, reduceCtorEq, Nat.lt_irrefl]
  rw [evSs_cons]; simp -implicitDefEqProofs only [evS, evT, evE, evP, evPs, evV, evA, evAnd, evOr, evI, Pv.a0, Pv.a1, Pv.v0, Pv.v1, opd, slotOf, satOp, Pv.two, Pv.one, ob_s, ob_n, sc_int, sc_bl, sc_str, sc_non, bd_ok, bd_exc, thenE_ok, thenE_exc, thenT_ok, thenT_exc, thenA_ok, thenI_ok, fl_nx, fl_ret, fl_exc, fl_bk, fl_ct, fl_nil, evSs_nil, asBl, asInt, un_non, un_bl, un_int, un_str, un_tup, un_lst, un_obj, un_un, fz, fzs, isSc, isScs, isFz, isFzs, isOwn, isOwns, dNeg, dT, tgA, setAll, okS, res, at2, it_tup, it_lst, chnD, lItems, tmps, cpyLoc, cpyTmp, ixTmp, ioPos, outFl, outsOf, fzs_ints, Pv.sto1, Pv.sto2, ownItems, at2_0, at2_1, at3_0, at3_1, at3_2, at4_0, at4_1, at4_2, at4_3, ix_20, ix_21, ix_40, ix_41, ix_42, ix_43, List.length_map, isFzs, d2_add, d2_sub, d2_lt, d2_le, d2_gt, d2_ge, d2_eq, d2_ne, d2_eqs, d2_eqb, d2_isn_non, d2_isn_int, d2_isn_bl, d2_isn_str, d2_isn_tup, d2_isn_lst, d2_notn_non, d2_notn_int, d2_notn_bl, d2_notn_str, d2_notn_tup, d2_notn_lst, d2_mod, d2_fdiv, Int.reduceToNat, Int.reducePow, Int.reduceEq, Int.reduceLT, Int.reduceLE, Int.reduceNeg, Int.reduceMul, Int.reduceAdd, Int.reduceSub, cst0, cst1, cst2, cst3, cst4, cst5, cst6, cst7, cst8, cst9, cst10, cst11, cst12, ne_eq, not_false_eq_true, not_true_eq_false, dF_gcd, dF_lenL, dF_lenT, dF_int, dF_intb, dF_abs, dF_min, dF_max, dI_ii, dI_ib, dI_is, dI_il, dI_it, dI_bi, dI_bb, dI_bs, dI_bl, dI_bt, dI_si, dI_sb, dI_ss, dI_sl, dI_st, dI_li, dI_lb, dI_ls, dI_ll, dI_lt, dI_ti, dI_tb, dI_ts, dI_tl, dI_tt, dI_ni, dI_nb, dI_ns, dI_nl, dI_nt, Option.map_some, List.length_cons, List.length_nil, List.getElem?_cons_zero, List.getElem?_cons_succ, List.getElem?_nil, List.set_cons_zero, List.set_cons_succ, List.set_nil, List.map_cons, List.map_nil, List.cons_append, List.nil_append, List.append_nil, List.replicate, List.getD_cons_zero, List.getD_cons_succ, List.contains_nil, List.contains_cons, Nat.reduceBEq, Bool.or_false, Bool.false_or, Bool.or_self, Bool.or_true, Bool.true_or, List.isEmpty_nil, List.isEmpty_cons, decide_true, decide_false, if_true, if_false, Bool.false_eq_true, Bool.not_true, Bool.not_false, Bool.and_true, Bool.true_and, Bool.and_self, Bool.and_false, Bool.false_and, reduceIte, Nat.zero_add, Nat.reduceAdd, Nat.reduceSub, Nat.reduceLT, Nat.reduceLeDiff, Nat.reduceEqDiff, decide_eq_true_eq, eq_self, Option.some.injEq, reduceCtorEq, Nat.lt_irrefl, hz]
  rw [evSs_cons]; simp -implicitDefEqProofs only [evS, evT, evE, evP, evPs, evV, evA, evAnd, evOr, evI, Pv.a0, Pv.a1, Pv.v0, Pv.v1, opd, slotOf, satOp, Pv.two, Pv.one, ob_s, ob_n, sc_int, sc_bl, sc_str, sc_non, bd_ok, bd_exc, thenE_ok, thenE_exc, thenT_ok, thenT_exc, thenA_ok, thenI_ok, fl_nx, fl_ret, fl_exc, fl_bk, fl_ct, fl_nil, evSs_nil, asBl, asInt, un_non, un_bl, un_int, un_str, un_tup, un_lst, un_obj, un_un, fz, fzs, isSc, isScs, isFz, isFzs, isOwn, isOwns, dNeg, dT, tgA, setAll, okS, res, at2, it_tup, it_lst, chnD, lItems, tmps, cpyLoc, cpyTmp, ixTmp, ioPos, outFl, outsOf, fzs_ints, Pv.sto1, Pv.sto2, ownItems, at2_0, at2_1, at3_0, at3_1, at3_2, at4_0, at4_1, at4_2, at4_3, ix_20, ix_21, ix_40, ix_41, ix_42, ix_43, List.length_map, isFzs, d2_add, d2_sub, d2_lt, d2_le, d2_gt, d2_ge, d2_eq, d2_ne, d2_eqs, d2_eqb, d2_isn_non, d2_isn_int, d2_isn_bl, d2_isn_str, d2_isn_tup, d2_isn_lst, d2_notn_non, d2_notn_int, d2_notn_bl, d2_notn_str, d2_notn_tup, d2_notn_lst, d2_mod, d2_fdiv, Int.reduceToNat, Int.reducePow, Int.reduceEq, Int.reduceLT, Int.reduceLE, Int.reduceNeg, Int.reduceMul, Int.reduceAdd, Int.reduceSub, cst0, cst1, cst2, cst3, cst4, cst5, cst6, cst7, cst8, cst9, cst10, cst11, cst12, ne_eq, not_false_eq_true, not_true_eq_false, dF_gcd, dF_lenL, dF_lenT, dF_int, dF_intb, dF_abs, dF_min, dF_max, dI_ii, dI_ib, dI_is, dI_il, dI_it, dI_bi, dI_bb, dI_bs, dI_bl, dI_bt, dI_si, dI_sb, dI_ss, dI_sl, dI_st, dI_li, dI_lb, dI_ls, dI_ll, dI_lt, dI_ti, dI_tb, dI_ts, dI_tl, dI_tt, dI_ni, dI_nb, dI_ns, dI_nl, dI_nt, Option.map_some, List.length_cons, List.length_nil, List.getElem?_cons_zero, List.getElem?_cons_succ, List.getElem?_nil, List.set_cons_zero, List.set_cons_succ, List.set_nil, List.map_cons, List.map_nil, List.cons_append, List.nil_append, List.append_nil, List.replicate, List.getD_cons_zero, List.getD_cons_succ, List.contains_nil, List.contains_cons, Nat.reduceBEq, Bool.or_false, Bool.false_or, Bool.or_self, Bool.or_true, Bool.true_or, List.isEmpty_nil, List.isEmpty_cons, decide_true, decide_false, if_true, if_false, Bool.false_eq_true, Bool.not_true, Bool.not_false, Bool.and_true, Bool.true_and, Bool.and_self, Bool.and_false, Bool.false_and, reduceIte, Nat.zero_add, Nat.reduceAdd, Nat.reduceSub, Nat.reduceLT, Nat.reduceLeDiff, Nat.reduceEqDiff, decide_eq_true_eq, eq_self, Option.some.injEq, reduceCtorEq, Nat.lt_irrefl, hz]
  rw [evSs_cons]; simp -implicitDefEqProofs only [evS, evT, evE, evP, evPs, evV, evA, evAnd, evOr, evI, Pv.a0, Pv.a1, Pv.v0, Pv.v1, opd, slotOf, satOp, Pv.two, Pv.one, ob_s, ob_n, sc_int, sc_bl, sc_str, sc_non, bd_ok, bd_exc, thenE_ok, thenE_exc, thenT_ok, thenT_exc, thenA_ok, thenI_ok, fl_nx, fl_ret, fl_exc, fl_bk, fl_ct, fl_nil, evSs_nil, asBl, asInt, un_non, un_bl, un_int, un_str, un_tup, un_lst, un_obj, un_un, fz, fzs, isSc, isScs, isFz, isFzs, isOwn, isOwns, dNeg, dT, tgA, setAll, okS, res, at2, it_tup, it_lst, chnD, lItems, tmps, cpyLoc, cpyTmp, ixTmp, ioPos, outFl, outsOf, fzs_ints, Pv.sto1, Pv.sto2, ownItems, at2_0, at2_1, at3_0, at3_1, at3_2, at4_0, at4_1, at4_2, at4_3, ix_20, ix_21, ix_40, ix_41, ix_42, ix_43, List.length_map, isFzs, d2_add, d2_sub, d2_lt, d2_le, d2_gt, d2_ge, d2_eq, d2_ne, d2_eqs, d2_eqb, d2_isn_non, d2_isn_int, d2_isn_bl, d2_isn_str, d2_isn_tup, d2_isn_lst, d2_notn_non, d2_notn_int, d2_notn_bl, d2_notn_str, d2_notn_tup, d2_notn_lst, d2_mod, d2_fdiv, Int.reduceToNat, Int.reducePow, Int.reduceEq, Int.reduceLT, Int.reduceLE, Int.reduceNeg, Int.reduceMul, Int.reduceAdd, Int.reduceSub, cst0, cst1, cst2, cst3, cst4, cst5, cst6, cst7, cst8, cst9, cst10, cst11, cst12, ne_eq, not_false_eq_true, not_true_eq_false, dF_gcd, dF_lenL, dF_lenT, dF_int, dF_intb, dF_abs, dF_min, dF_max, dI_ii, dI_ib, dI_is, dI_il, dI_it, dI_bi, dI_bb, dI_bs, dI_bl, dI_bt, dI_si, dI_sb, dI_ss, dI_sl, dI_st, dI_li, dI_lb, dI_ls, dI_ll, dI_lt, dI_ti, dI_tb, dI_ts, dI_tl, dI_tt, dI_ni, dI_nb, dI_ns, dI_nl, dI_nt, Option.map_some, List.length_cons, List.length_nil, List.getElem?_cons_zero, List.getElem?_cons_succ, List.getElem?_nil, List.set_cons_zero, List.set_cons_succ, List.set_nil, List.map_cons, List.map_nil, List.cons_append, List.nil_append, List.append_nil, List.replicate, List.getD_cons_zero, List.getD_cons_succ, List.contains_nil, List.contains_cons, Nat.reduceBEq, Bool.or_false, Bool.false_or, Bool.or_self, Bool.or_true, Bool.true_or, List.isEmpty_nil, List.isEmpty_cons, decide_true, decide_false, if_true, if_false, Bool.false_eq_true, Bool.not_true, Bool.not_false, Bool.and_true, Bool.true_and, Bool.and_self, Bool.and_false, Bool.false_and, reduceIte, Nat.zero_add, Nat.reduceAdd, Nat.reduceSub, Nat.reduceLT, Nat.reduceLeDiff, Nat.reduceEqDiff, decide_eq_true_eq, eq_self, Option.some.injEq, reduceCtorEq, Nat.lt_irrefl, hz]
  rw [evSs_cons]; simp -implicitDefEqProofs only [evS, evT, evE, evP, evPs, evV, evA, evAnd, evOr, evI, Pv.a0, Pv.a1, Pv.v0, Pv.v1, opd, slotOf, satOp, Pv.two, Pv.one, ob_s, ob_n, sc_int, sc_bl, sc_str, sc_non, bd_ok, bd_exc, thenE_ok, thenE_exc, thenT_ok, thenT_exc, thenA_ok, thenI_ok, fl_nx, fl_ret, fl_exc, fl_bk, fl_ct, fl_nil, evSs_nil, asBl, asInt, un_non, un_bl, un_int, un_str, un_tup, un_lst, un_obj, un_un, fz, fzs, isSc, isScs, isFz, isFzs, isOwn, isOwns, dNeg, dT, tgA, setAll, okS, res, at2, it_tup, it_lst, chnD, lItems, tmps, cpyLoc, cpyTmp, ixTmp, ioPos, outFl, outsOf, fzs_ints, Pv.sto1, Pv.sto2, ownItems, at2_0, at2_1, at3_0, at3_1, at3_2, at4_0, at4_1, at4_2, at4_3, ix_20, ix_21, ix_40, ix_41, ix_42, ix_43, List.length_map, isFzs, d2_add, d2_sub, d2_lt, d2_le, d2_gt, d2_ge, d2_eq, d2_ne, d2_eqs, d2_eqb, d2_isn_non, d2_isn_int, d2_isn_bl, d2_isn_str, d2_isn_tup, d2_isn_lst, d2_notn_non, d2_notn_int, d2_notn_bl, d2_notn_str, d2_notn_tup, d2_notn_lst, d2_mod, d2_fdiv, Int.reduceToNat, Int.reducePow, Int.reduceEq, Int.reduceLT, Int.reduceLE, Int.reduceNeg, Int.reduceMul, Int.reduceAdd, Int.reduceSub, cst0, cst1, cst2, cst3, cst4, cst5, cst6, cst7, cst8, cst9, cst10, cst11, cst12, ne_eq, not_false_eq_true, not_true_eq_false, dF_gcd, dF_lenL, dF_lenT, dF_int, dF_intb, dF_abs, dF_min, dF_max, dI_ii, dI_ib, dI_is, dI_il, dI_it, dI_bi, dI_bb, dI_bs, dI_bl, dI_bt, dI_si, dI_sb, dI_ss, dI_sl, dI_st, dI_li, dI_lb, dI_ls, dI_ll, dI_lt, dI_ti, dI_tb, dI_ts, dI_tl, dI_tt, dI_ni, dI_nb, dI_ns, dI_nl, dI_nt, Option.map_some, List.length_cons, List.length_nil, List.getElem?_cons_zero, List.getElem?_cons_succ, List.getElem?_nil, List.set_cons_zero, List.set_cons_succ, List.set_nil, List.map_cons, List.map_nil, List.cons_append, List.nil_append, List.append_nil, List.replicate, List.getD_cons_zero, List.getD_cons_succ, List.contains_nil, List.contains_cons, Nat.reduceBEq, Bool.or_false, Bool.false_or, Bool.or_self, Bool.or_true, Bool.true_or, List.isEmpty_nil, List.isEmpty_cons, decide_true, decide_false, if_true, if_false, Bool.false_eq_true, Bool.not_true, Bool.not_false, Bool.and_true, Bool.true_and, Bool.and_self, Bool.and_false, Bool.false_and, reduceIte, Nat.zero_add, Nat.reduceAdd, Nat.reduceSub, Nat.reduceLT, Nat.reduceLeDiff, Nat.reduceEqDiff, decide_eq_true_eq, eq_self, Option.some.injEq, reduceCtorEq, Nat.lt_irrefl, hz]
  rw [evSs_cons]; simp -implicitDefEqProofs only [evS, evT, evE, evP, evPs, evV, evA, evAnd, evOr, evI, Pv.a0, Pv.a1, Pv.v0, Pv.v1, opd, slotOf, satOp, Pv.two, Pv.one, ob_s, ob_n, sc_int, sc_bl, sc_str, sc_non, bd_ok, bd_exc, thenE_ok, thenE_exc, thenT_ok, thenT_exc, thenA_ok, thenI_ok, fl_nx, fl_ret, fl_exc, fl_bk, fl_ct, fl_nil, evSs_nil, asBl, asInt, un_non, un_bl, un_int, un_str, un_tup, un_lst, un_obj, un_un, fz, fzs, isSc, isScs, isFz, isFzs, isOwn, isOwns, dNeg, dT, tgA, setAll, okS, res, at2, it_tup, it_lst, chnD, lItems, tmps, cpyLoc, cpyTmp, ixTmp, ioPos, outFl, outsOf, fzs_ints, Pv.sto1, Pv.sto2, ownItems, at2_0, at2_1, at3_0, at3_1, at3_2, at4_0, at4_1, at4_2, at4_3, ix_20, ix_21, ix_40, ix_41, ix_42, ix_43, List.length_map, isFzs, d2_add, d2_sub, d2_lt, d2_le, d2_gt, d2_ge, d2_eq, d2_ne, d2_eqs, d2_eqb, d2_isn_non, d2_isn_int, d2_isn_bl, d2_isn_str, d2_isn_tup, d2_isn_lst, d2_notn_non, d2_notn_int, d2_notn_bl, d2_notn_str, d2_notn_tup, d2_notn_lst, d2_mod, d2_fdiv, Int.reduceToNat, Int.reducePow, Int.reduceEq, Int.reduceLT, Int.reduceLE, Int.reduceNeg, Int.reduceMul, Int.reduceAdd, Int.reduceSub, cst0, cst1, cst2, cst3, cst4, cst5, cst6, cst7, cst8, cst9, cst10, cst11, cst12, ne_eq, not_false_eq_true, not_true_eq_false, dF_gcd, dF_lenL, dF_lenT, dF_int, dF_intb, dF_abs, dF_min, dF_max, dI_ii, dI_ib, dI_is, dI_il, dI_it, dI_bi, dI_bb, dI_bs, dI_bl, dI_bt, dI_si, dI_sb, dI_ss, dI_sl, dI_st, dI_li, dI_lb, dI_ls, dI_ll, dI_lt, dI_ti, dI_tb, dI_ts, dI_tl, dI_tt, dI_ni, dI_nb, dI_ns, dI_nl, dI_nt, Option.map_some, List.length_cons, List.length_nil, List.getElem?_cons_zero, List.getElem?_cons_succ, List.getElem?_nil, List.set_cons_zero, List.set_cons_succ, List.set_nil, List.map_cons, List.map_nil, List.cons_append, List.nil_append, List.append_nil, List.replicate, List.getD_cons_zero, List.getD_cons_succ, List.contains_nil, List.contains_cons, Nat.reduceBEq, Bool.or_false, Bool.false_or, Bool.or_self, Bool.or_true, Bool.true_or, List.isEmpty_nil, List.isEmpty_cons, decide_true, decide_false, if_true, if_false, Bool.false_eq_true, Bool.not_true, Bool.not_false, Bool.and_true, Bool.true_and, Bool.and_self, Bool.and_false, Bool.false_and, reduceIte, Nat.zero_add, Nat.reduceAdd, Nat.reduceSub, Nat.reduceLT, Nat.reduceLeDiff, Nat.reduceEqDiff, decide_eq_true_eq, eq_self, Option.some.injEq, reduceCtorEq, Nat.lt_irrefl, hz]
  rw [evSs_cons]; simp -implicitDefEqProofs only [evS, evT, evE, evP, evPs, evV, evA, evAnd, evOr, evI, Pv.a0, Pv.a1, Pv.v0, Pv.v1, opd, slotOf, satOp, Pv.two, Pv.one, ob_s, ob_n, sc_int, sc_bl, sc_str, sc_non, bd_ok, bd_exc, thenE_ok, thenE_exc, thenT_ok, thenT_exc, thenA_ok, thenI_ok, fl_nx, fl_ret, fl_exc, fl_bk, fl_ct, fl_nil, evSs_nil, asBl, asInt, un_non, un_bl, un_int, un_str, un_tup, un_lst, un_obj, un_un, fz, fzs, isSc, isScs, isFz, isFzs, isOwn, isOwns, dNeg, dT, tgA, setAll, okS, res, at2, it_tup, it_lst, chnD, lItems, tmps, cpyLoc, cpyTmp, ixTmp, ioPos, outFl, outsOf, fzs_ints, Pv.sto1, Pv.sto2, ownItems, at2_0, at2_1, at3_0, at3_1, at3_2, at4_0, at4_1, at4_2, at4_3, ix_20, ix_21, ix_40, ix_41, ix_42, ix_43, List.length_map, isFzs, d2_add, d2_sub, d2_lt, d2_le, d2_gt, d2_ge, d2_eq, d2_ne, d2_eqs, d2_eqb, d2_isn_non, d2_isn_int, d2_isn_bl, d2_isn_str, d2_isn_tup, d2_isn_lst, d2_notn_non, d2_notn_int, d2_notn_bl, d2_notn_str, d2_notn_tup, d2_notn_lst, d2_mod, d2_fdiv, Int.reduceToNat, Int.reducePow, Int.reduceEq, Int.reduceLT, Int.reduceLE, Int.reduceNeg, Int.reduceMul, Int.reduceAdd, Int.reduceSub, cst0, cst1, cst2, cst3, cst4, cst5, cst6, cst7, cst8, cst9, cst10, cst11, cst12, ne_eq, not_false_eq_true, not_true_eq_false, dF_gcd, dF_lenL, dF_lenT, dF_int, dF_intb, dF_abs, dF_min, dF_max, dI_ii, dI_ib, dI_is, dI_il, dI_it, dI_bi, dI_bb, dI_bs, dI_bl, dI_bt, dI_si, dI_sb, dI_ss, dI_sl, dI_st, dI_li, dI_lb, dI_ls, dI_ll, dI_lt, dI_ti, dI_tb, dI_ts, dI_tl, dI_tt, dI_ni, dI_nb, dI_ns, dI_nl, dI_nt, Option.map_some, List.length_cons, List.length_nil, List.getElem?_cons_zero, List.getElem?_cons_succ, List.getElem?_nil, List.set_cons_zero, List.set_cons_succ, List.set_nil, List.map_cons, List.map_nil, List.cons_append, List.nil_append, List.append_nil, List.replicate, List.getD_cons_zero, List.getD_cons_succ, List.contains_nil, List.contains_cons, Nat.reduceBEq, Bool.or_false, Bool.false_or, Bool.or_self, Bool.or_true, Bool.true_or, List.isEmpty_nil, List.isEmpty_cons, decide_true, decide_false, if_true, if_false, Bool.false_eq_true, Bool.not_true, Bool.not_false, Bool.and_true, Bool.true_and, Bool.and_self, Bool.and_false, Bool.false_and, reduceIte, Nat.zero_add, Nat.reduceAdd, Nat.reduceSub, Nat.reduceLT, Nat.reduceLeDiff, Nat.reduceEqDiff, decide_eq_true_eq, eq_self, Option.some.injEq, reduceCtorEq, Nat.lt_irrefl, hz]
  rw [evSs_cons, evS, q3 xs hz]; simp -implicitDefEqProofs only [evS, evT, evE, evP, evPs, evV, evA, evAnd, evOr, evI, Pv.a0, Pv.a1, Pv.v0, Pv.v1, opd, slotOf, satOp, Pv.two, Pv.one, ob_s, ob_n, sc_int, sc_bl, sc_str, sc_non, bd_ok, bd_exc, thenE_ok, thenE_exc, thenT_ok, thenT_exc, thenA_ok, thenI_ok, fl_nx, fl_ret, fl_exc, fl_bk, fl_ct, fl_nil, evSs_nil, asBl, asInt, un_non, un_bl, un_int, un_str, un_tup, un_lst, un_obj, un_un, fz, fzs, isSc, isScs, isFz, isFzs, isOwn, isOwns, dNeg, dT, tgA, setAll, okS, res, at2, it_tup, it_lst, chnD, lItems, tmps, cpyLoc, cpyTmp, ixTmp, ioPos, outFl, outsOf, fzs_ints, Pv.sto1, Pv.sto2, ownItems, at2_0, at2_1, at3_0, at3_1, at3_2, at4_0, at4_1, at4_2, at4_3, ix_20, ix_21, ix_40, ix_41, ix_42, ix_43, List.length_map, isFzs, d2_add, d2_sub, d2_lt, d2_le, d2_gt, d2_ge, d2_eq, d2_ne, d2_eqs, d2_eqb, d2_isn_non, d2_isn_int, d2_isn_bl, d2_isn_str, d2_isn_tup, d2_isn_lst, d2_notn_non, d2_notn_int, d2_notn_bl, d2_notn_str, d2_notn_tup, d2_notn_lst, d2_mod, d2_fdiv, Int.reduceToNat, Int.reducePow, Int.reduceEq, Int.reduceLT, Int.reduceLE, Int.reduceNeg, Int.reduceMul, Int.reduceAdd, Int.reduceSub, cst0, cst1, cst2, cst3, cst4, cst5, cst6, cst7, cst8, cst9, cst10, cst11, cst12, ne_eq, not_false_eq_true, not_true_eq_false, dF_gcd, dF_lenL, dF_lenT, dF_int, dF_intb, dF_abs, dF_min, dF_max, dI_ii, dI_ib, dI_is, dI_il, dI_it, dI_bi, dI_bb, dI_bs, dI_bl, dI_bt, dI_si, dI_sb, dI_ss, dI_sl, dI_st, dI_li, dI_lb, dI_ls, dI_ll, dI_lt, dI_ti, dI_tb, dI_ts, dI_tl, dI_tt, dI_ni, dI_nb, dI_ns, dI_nl, dI_nt, Option.map_some, List.length_cons, List.length_nil, List.getElem?_cons_zero, List.getElem?_cons_succ, List.getElem?_nil, List.set_cons_zero, List.set_cons_succ, List.set_nil, List.map_cons, List.map_nil, List.cons_append, List.nil_append, List.append_nil, List.replicate, List.getD_cons_zero, List.getD_cons_succ, List.contains_nil, List.contains_cons, Nat.reduceBEq, Bool.or_false, Bool.false_or, Bool.or_self, Bool.or_true, Bool.true_or, List.isEmpty_nil, List.isEmpty_cons, decide_true, decide_false, if_true, if_false, Bool.false_eq_true, Bool.not_true, Bool.not_false, Bool.and_true, Bool.true_and, Bool.and_self, Bool.and_false, Bool.false_and, reduceIte, Nat.zero_add, Nat.reduceAdd, Nat.reduceSub, Nat.reduceLT, Nat.reduceLeDiff, Nat.reduceEqDiff, decide_eq_true_eq, eq_self, Option.some.injEq, reduceCtorEq, Nat.lt_irrefl]
  rw [evSs_cons]; simp -implicitDefEqProofs only [evS, evT, evE, evP, evPs, evV, evA, evAnd, evOr, evI, Pv.a0, Pv.a1, Pv.v0, Pv.v1, opd, slotOf, satOp, Pv.two, Pv.one, ob_s, ob_n, sc_int, sc_bl, sc_str, sc_non, bd_ok, bd_exc, thenE_ok, thenE_exc, thenT_ok, thenT_exc, thenA_ok, thenI_ok, fl_nx, fl_ret, fl_exc, fl_bk, fl_ct, fl_nil, evSs_nil, asBl, asInt, un_non, un_bl, un_int, un_str, un_tup, un_lst, un_obj, un_un, fz, fzs, isSc, isScs, isFz, isFzs, isOwn, isOwns, dNeg, dT, tgA, setAll, okS, res, at2, it_tup, it_lst, chnD, lItems, tmps, cpyLoc, cpyTmp, ixTmp, ioPos, outFl, outsOf, fzs_ints, Pv.sto1, Pv.sto2, ownItems, at2_0, at2_1, at3_0, at3_1, at3_2, at4_0, at4_1, at4_2, at4_3, ix_20, ix_21, ix_40, ix_41, ix_42, ix_43, List.length_map, isFzs, d2_add, d2_sub, d2_lt, d2_le, d2_gt, d2_ge, d2_eq, d2_ne, d2_eqs, d2_eqb, d2_isn_non, d2_isn_int, d2_isn_bl, d2_isn_str, d2_isn_tup, d2_isn_lst, d2_notn_non, d2_notn_int, d2_notn_bl, d2_notn_str, d2_notn_tup, d2_notn_lst, d2_mod, d2_fdiv, Int.reduceToNat, Int.reducePow, Int.reduceEq, Int.reduceLT, Int.reduceLE, Int.reduceNeg, Int.reduceMul, Int.reduceAdd, Int.reduceSub, cst0, cst1, cst2, cst3, cst4, cst5, cst6, cst7, cst8, cst9, cst10, cst11, cst12, ne_eq, not_false_eq_true, not_true_eq_false, dF_gcd, dF_lenL, dF_lenT, dF_int, dF_intb, dF_abs, dF_min, dF_max, dI_ii, dI_ib, dI_is, dI_il, dI_it, dI_bi, dI_bb, dI_bs, dI_bl, dI_bt, dI_si, dI_sb, dI_ss, dI_sl, dI_st, dI_li, dI_lb, dI_ls, dI_ll, dI_lt, dI_ti, dI_tb, dI_ts, dI_tl, dI_tt, dI_ni, dI_nb, dI_ns, dI_nl, dI_nt, Option.map_some, List.length_cons, List.length_nil, List.getElem?_cons_zero, List.getElem?_cons_succ, List.getElem?_nil, List.set_cons_zero, List.set_cons_succ, List.set_nil, List.map_cons, List.map_nil, List.cons_append, List.nil_append, List.append_nil, List.replicate, List.getD_cons_zero, List.getD_cons_succ, List.contains_nil, List.contains_cons, Nat.reduceBEq, Bool.or_false, Bool.false_or, Bool.or_self, Bool.or_true, Bool.true_or, List.isEmpty_nil, List.isEmpty_cons, decide_true, decide_false, if_true, if_false, Bool.false_eq_true, Bool.not_true, Bool.not_false, Bool.and_true, Bool.true_and, Bool.and_self, Bool.and_false, Bool.false_and, reduceIte, Nat.zero_add, Nat.reduceAdd, Nat.reduceSub, Nat.reduceLT, Nat.reduceLeDiff, Nat.reduceEqDiff, decide_eq_true_eq, eq_self, Option.some.injEq, reduceCtorEq, Nat.lt_irrefl, hz, hr, rngD, ht]
  unfold same_body at e
  rw [e]
  simp -implicitDefEqProofs only [evS, evT, evE, evP, evPs, evV, evA, evAnd, evOr, evI, Pv.a0, Pv.a1, Pv.v0, Pv.v1, opd, slotOf, satOp, Pv.two, Pv.one, ob_s, ob_n, sc_int, sc_bl, sc_str, sc_non, bd_ok, bd_exc, thenE_ok, thenE_exc, thenT_ok, thenT_exc, thenA_ok, thenI_ok, fl_nx, fl_ret, fl_exc, fl_bk, fl_ct, fl_nil, evSs_nil, asBl, asInt, un_non, un_bl, un_int, un_str, un_tup, un_lst, un_obj, un_un, fz, fzs, isSc, isScs, isFz, isFzs, isOwn, isOwns, dNeg, dT, tgA, setAll, okS, res, at2, it_tup, it_lst, chnD, lItems, tmps, cpyLoc, cpyTmp, ixTmp, ioPos, outFl, outsOf, fzs_ints, Pv.sto1, Pv.sto2, ownItems, at2_0, at2_1, at3_0, at3_1, at3_2, at4_0, at4_1, at4_2, at4_3, ix_20, ix_21, ix_40, ix_41, ix_42, ix_43, List.length_map, isFzs, d2_add, d2_sub, d2_lt, d2_le, d2_gt, d2_ge, d2_eq, d2_ne, d2_eqs, d2_eqb, d2_isn_non, d2_isn_int, d2_isn_bl, d2_isn_str, d2_isn_tup, d2_isn_lst, d2_notn_non, d2_notn_int, d2_notn_bl, d2_notn_str, d2_notn_tup, d2_notn_lst, d2_mod, d2_fdiv, Int.reduceToNat, Int.reducePow, Int.reduceEq, Int.reduceLT, Int.reduceLE, Int.reduceNeg, Int.reduceMul, Int.reduceAdd, Int.reduceSub, cst0, cst1, cst2, cst3, cst4, cst5, cst6, cst7, cst8, cst9, cst10, cst11, cst12, ne_eq, not_false_eq_true, not_true_eq_false, dF_gcd, dF_lenL, dF_lenT, dF_int, dF_intb, dF_abs, dF_min, dF_max, dI_ii, dI_ib, dI_is, dI_il, dI_it, dI_bi, dI_bb, dI_bs, dI_bl, dI_bt, dI_si, dI_sb, dI_ss, dI_sl, dI_st, dI_li, dI_lb, dI_ls, dI_ll, dI_lt, dI_ti, dI_tb, dI_ts, dI_tl, dI_tt, dI_ni, dI_nb, dI_ns, dI_nl, dI_nt, Option.map_some, List.length_cons, List.length_nil, List.getElem?_cons_zero, List.getElem?_cons_succ, List.getElem?_nil, List.set_cons_zero, List.set_cons_succ, List.set_nil, List.map_cons, List.map_nil, List.cons_append, List.nil_append, List.append_nil, List.replicate, List.getD_cons_zero, List.getD_cons_succ, List.contains_nil, List.contains_cons, Nat.reduceBEq, Bool.or_false, Bool.false_or, Bool.or_self, Bool.or_true, Bool.true_or, List.isEmpty_nil, List.isEmpty_cons, decide_true, decide_false, if_true, if_false, Bool.false_eq_true, Bool.not_true, Bool.not_false, Bool.and_true, Bool.true_and, Bool.and_self, Bool.and_false, Bool.false_and, reduceIte, Nat.zero_add, Nat.reduceAdd, Nat.reduceSub, Nat.reduceLT, Nat.reduceLeDiff, Nat.reduceEqDiff, decide_eq_true_eq, eq_self, Option.some.injEq, reduceCtorEq, Nat.lt_irrefl]
  rw [evSs_cons]; simp -implicitDefEqProofs only [evS, evT, evE, evP, evPs, evV, evA, evAnd, evOr, evI, Pv.a0, Pv.a1, Pv.v0, Pv.v1, opd, slotOf, satOp, Pv.two, Pv.one, ob_s, ob_n, sc_int, sc_bl, sc_str, sc_non, bd_ok, bd_exc, thenE_ok, thenE_exc, thenT_ok, thenT_exc, thenA_ok, thenI_ok, fl_nx, fl_ret, fl_exc, fl_bk, fl_ct, fl_nil, evSs_nil, asBl, asInt, un_non, un_bl, un_int, un_str, un_tup, un_lst, un_obj, un_un, fz, fzs, isSc, isScs, isFz, isFzs, isOwn, isOwns, dNeg, dT, tgA, setAll, okS, res, at2, it_tup, it_lst, chnD, lItems, tmps, cpyLoc, cpyTmp, ixTmp, ioPos, outFl, outsOf, fzs_ints, Pv.sto1, Pv.sto2, ownItems, at2_0, at2_1, at3_0, at3_1, at3_2, at4_0, at4_1, at4_2, at4_3, ix_20, ix_21, ix_40, ix_41, ix_42, ix_43, List.length_map, isFzs, d2_add, d2_sub, d2_lt, d2_le, d2_gt, d2_ge, d2_eq, d2_ne, d2_eqs, d2_eqb, d2_isn_non, d2_isn_int, d2_isn_bl, d2_isn_str, d2_isn_tup, d2_isn_lst, d2_notn_non, d2_notn_int, d2_notn_bl, d2_notn_str, d2_notn_tup, d2_notn_lst, d2_mod, d2_fdiv, Int.reduceToNat, Int.reducePow, Int.reduceEq, Int.reduceLT, Int.reduceLE, Int.reduceNeg, Int.reduceMul, Int.reduceAdd, Int.reduceSub, cst0, cst1, cst2, cst3, cst4, cst5, cst6, cst7, cst8, cst9, cst10, cst11, cst12, ne_eq, not_false_eq_true, not_true_eq_false, dF_gcd, dF_lenL, dF_lenT, dF_int, dF_intb, dF_abs, dF_min, dF_max, dI_ii, dI_ib, dI_is, dI_il, dI_it, dI_bi, dI_bb, dI_bs, dI_bl, dI_bt, dI_si, dI_sb, dI_ss, dI_sl, dI_st, dI_li, dI_lb, dI_ls, dI_ll, dI_lt, dI_ti, dI_tb, dI_ts, dI_tl, dI_tt, dI_ni, dI_nb, dI_ns, dI_nl, dI_nt, Option.map_some, List.length_cons, List.length_nil, List.getElem?_cons_zero, List.getElem?_cons_succ, List.getElem?_nil, List.set_cons_zero, List.set_cons_succ, List.set_nil, List.map_cons, List.map_nil, List.cons_append, List.nil_append, List.append_nil, List.replicate, List.getD_cons_zero, List.getD_cons_succ, List.contains_nil, List.contains_cons, Nat.reduceBEq, Bool.or_false, Bool.false_or, Bool.or_self, Bool.or_true, Bool.true_or, List.isEmpty_nil, List.isEmpty_cons, decide_true, decide_false, if_true, if_false, Bool.false_eq_true, Bool.not_true, Bool.not_false, Bool.and_true, Bool.true_and, Bool.and_self, Bool.and_false, Bool.false_and, reduceIte, Nat.zero_add, Nat.reduceAdd, Nat.reduceSub, Nat.reduceLT, Nat.reduceLeDiff, Nat.reduceEqDiff, decide_eq_true_eq, eq_self, Option.some.injEq, reduceCtorEq, Nat.lt_irrefl]
theorem hs_l (k : Nat) (xs : List D) (hl : xs.length ≤ 1000) (hp : plains k xs = true) : evFn 0 [false, false] 3 (b_L_same k) [.lst false xs, .lst false xs] = some (.ret (.bl true) []) := by
  obtain ⟨x', e⟩ := same_loop (k := k) (T := .lst false xs) rfl rfl hp (List.range xs.length) .un fun j hj => List.mem_range.mp hj
  have hz := fzs_id xs (plains_fz xs hp)
  have hr := rngB_len hl
  have ht : (xs.length : Int).toNat = xs.length := Int.toNat_natCast _
  unfold evFn b_L_same
  simp -implicitDefEqProofs only [evS, evT, evE, evP, evPs, evV, evA, evAnd, evOr, evI, Pv.a0, Pv.a1, Pv.v0, Pv.v1, opd, slotOf, satOp, Pv.two, Pv.one, ob_s, ob_n, sc_int, sc_bl, sc_str, sc_non, bd_ok, bd_exc, thenE_ok, thenE_exc, thenT_ok, thenT_exc, thenA_ok, thenI_ok, fl_nx, fl_ret, fl_exc, fl_bk, fl_ct, fl_nil, evSs_nil, asBl, asInt, un_non, un_bl, un_int, un_str, un_tup, un_lst, un_obj, un_un, fz, fzs, isSc, isScs, isFz, isFzs, isOwn, isOwns, dNeg, dT, tgA, setAll, okS, res, at2, it_tup, it_lst, chnD, lItems, tmps, cpyLoc, cpyTmp, ixTmp, ioPos, outFl, outsOf, fzs_ints, Pv.sto1, Pv.sto2, ownItems, at2_0, at2_1, at3_0, at3_1, at3_2, at4_0, at4_1, at4_2, at4_3, ix_20, ix_21, ix_40, ix_41, ix_42, ix_43, List.length_map, isFzs, d2_add, d2_sub, d2_lt, d2_le, d2_gt, d2_ge, d2_eq, d2_ne, d2_eqs, d2_eqb, d2_isn_non, d2_isn_int, d2_isn_bl, d2_isn_str, d2_isn_tup, d2_isn_lst, d2_notn_non, d2_notn_int, d2_notn_bl, d2_notn_str, d2_notn_tup, d2_notn_lst, d2_mod, d2_fdiv, Int.reduceToNat, Int.reducePow, Int.reduceEq, Int.reduceLT, Int.reduceLE, Int.reduceNeg, Int.reduceMul, Int.reduceAdd, Int.reduceSub, cst0, cst1, cst2, cst3, cst4, cst5, cst6, cst7, cst8, cst9, cst10, cst11, cst12, ne_eq, not_false_eq_true, not_true_eq_false, dF_gcd, dF_lenL, dF_lenT, dF_int, dF_intb, dF_abs, dF_min, dF_max, dI_ii, dI_ib, dI_is, dI_il, dI_it, dI_bi, dI_bb, dI_bs, dI_bl, dI_bt, dI_si, dI_sb, dI_ss, dI_sl, dI_st, dI_li, dI_lb, dI_ls, dI_ll, dI_lt, dI_ti, dI_tb, dI_ts, dI_tl, dI_tt, dI_ni, dI_nb, dI_ns, dI_nl, dI_nt, Option.map_some, List.length_cons, List.length_nil, List.getElem?_cons_zero, List.getElem?_cons_succ, List.getElem?_nil, List.set_cons_zero, List.set_cons_succ, List.set_nil, List.map_cons, List.map_nil, List.cons_append, List.nil_append, List.append_nil, List.replicate, List.getD_cons_zero, List.getD_cons_succ, List.contains_nil, List.contains_cons, Nat.reduceBEq, Bool.or_false, Bool.false_or, Bool.or_self, Bool.or_true, Bool.true_or, List.isEmpty_nil, List.isEmpty_cons, decide_true, decide_false, if_true, if_false, Bool.false_eq_true, Bool.not_true, Bool.not_false, Bool.and_true, Bool.true_and, Bool.and_self, Bool.and_false, Bool.false_and, reduceIte, Nat.zero_add, Nat.reduceAdd, Nat.reduceSub, Nat.reduceLT, Nat.reduceLeDiff, Nat.reduceEqDiff, decide_eq_true_eq, eq_self, Option.some.injEq, reduceCtorEq, Nat.lt_irrefl]
  rw [evSs_cons]; simp -implicitDefEqProofs only [evS, evT, evE, evP, evPs, evV, evA, evAnd, evOr, evI, Pv.a0, Pv.a1, Pv.v0, Pv.v1, opd, slotOf, satOp, Pv.two, Pv.one, ob_s, ob_n, sc_int, sc_bl, sc_str, sc_non, bd_ok, bd_exc, thenE_ok, thenE_exc, thenT_ok, thenT_exc, thenA_ok, thenI_ok, fl_nx, fl_ret, fl_exc, fl_bk, fl_ct, fl_nil, evSs_nil, asBl, asInt, un_non, un_bl, un_int, un_str, un_tup, un_lst, un_obj, un_un, fz, fzs, isSc, isScs, isFz, isFzs, isOwn, isOwns, dNeg, dT, tgA, setAll, okS, res, at2, it_tup, it_lst, chnD, lItems, tmps, cpyLoc, cpyTmp, ixTmp, ioPos, outFl, outsOf, fzs_ints, Pv.sto1, Pv.sto2, ownItems, at2_0, at2_1, at3_0, at3_1, at3_2, at4_0, at4_1, at4_2, at4_3, ix_20, ix_21, ix_40, ix_41, ix_42, ix_43, List.length_map, isFzs, d2_add, d2_sub, d2_lt, d2_le, d2_gt, d2_ge, d2_eq, d2_ne, d2_eqs, d2_eqb, d2_isn_non, d2_isn_int, d2_isn_bl, d2_isn_str, d2_isn_tup, d2_isn_lst, d2_notn_non, d2_notn_int, d2_notn_bl, d2_notn_str, d2_notn_tup, d2_notn_lst, d2_mod, d2_fdiv, Int.reduceToNat, Int.reducePow, Int.reduceEq, Int.reduceLT, Int.reduceLE, Int.reduceNeg, Int.reduceMul, Int.reduceAdd, Int.reduceSub, cst0, cst1, cst2, cst3, cst4, cst5, cst6, cst7, cst8, cst9, cst10, cst11, cst12, ne_eq, not_false_eq_true, not_true_eq_false, dF_gcd, dF_lenL, dF_lenT, dF_int, dF_intb, dF_abs, dF_min, dF_max, dI_ii, dI_ib, dI_is, dI_il, dI_it, dI_bi, dI_bb, dI_bs, dI_bl, dI_bt, dI_si, dI_sb, dI_ss, dI_sl, dI_st, dI_li, dI_lb, dI_ls, dI_ll, dI_lt, dI_ti, dI_tb, dI_ts, dI_tl, dI_tt, dI_ni, dI_nb, dI_ns, dI_nl, dI_nt, Option.map_some, List.length_cons, List.length_nil, List.getElem?_cons_zero, List.getElem?_cons_succ, List.getElem?_nil, List.set_cons_zero, List.set_cons_succ, List.set_nil, List.map_cons, List.map_nil, List.cons_append, List.nil_append, List.append_nil, List.replicate, List.getD_cons_zero, List.getD_cons_succ, List.contains_nil, List.contains_cons, Nat.reduceBEq, Bool.or_false, Bool.false_or, Bool.or_self, Bool.or_true, Bool.true_or, List.isEmpty_nil, List.isEmpty_cons, decide_true, decide_false, if_true, if_false, Bool.false_eq_true, Bool.not_true, Bool.not_false, Bool.and_true, Bool.true_and, Bool.and_self, Bool.and_false, Bool.false_and, reduceIte, Nat.zero_add, Nat.reduceAdd, Nat.reduceSub, Nat.reduceLT, Nat.reduceLeDiff, Nat.reduceEqDiff, decide_eq_true_eq, eq_self, Option.some.injEq, reduceCtorEq, Nat.lt_irrefl, hz]
  rw [evSs_cons]; simp -implicitDefEqProofs only [evS, evT, evE, evP, evPs, evV, evA, evAnd, evOr, evI, Pv.a0, Pv.a1, Pv.v0, Pv.v1, opd, slotOf, satOp, Pv.two, Pv.one, ob_s, ob_n, sc_int, sc_bl, sc_str, sc_non, bd_ok, bd_exc, thenE_ok, thenE_exc, thenT_ok, thenT_exc, thenA_ok, thenI_ok, fl_nx, fl_ret, fl_exc, fl_bk, fl_ct, fl_nil, evSs_nil, asBl, asInt, un_non, un_bl, un_int, un_str, un_tup, un_lst, un_obj, un_un, fz, fzs, isSc, isScs, isFz, isFzs, isOwn, isOwns, dNeg, dT, tgA, setAll, okS, res, at2, it_tup, it_lst, chnD, lItems, tmps, cpyLoc, cpyTmp, ixTmp, ioPos, outFl, outsOf, fzs_ints, Pv.sto1, Pv.sto2, ownItems, at2_0, at2_1, at3_0, at3_1, at3_2, at4_0, at4_1, at4_2, at4_3, ix_20, ix_21, ix_40, ix_41, ix_42, ix_43, List.length_map, isFzs, d2_add, d2_sub, d2_lt, d2_le, d2_gt, d2_ge, d2_eq, d2_ne, d2_eqs, d2_eqb, d2_isn_non, d2_isn_int, d2_isn_bl, d2_isn_str, d2_isn_tup, d2_isn_lst, d2_notn_non, d2_notn_int, d2_notn_bl, d2_notn_str, d2_notn_tup, d2_notn_lst, d2_mod, d2_fdiv, Int.reduceToNat, Int.reducePow, Int.reduceEq, Int.reduceLT, Int.reduceLE, Int.reduceNeg, Int.reduceMul, Int.reduceAdd, Int.reduceSub, cst0, cst1, cst2, cst3, cst4, cst5, cst6, cst7, cst8, cst9, cst10, cst11, cst12, ne_eq, not_false_eq_true, not_true_eq_false, dF_gcd, dF_lenL, dF_lenT, dF_int, dF_intb, dF_abs, dF_min, dF_max, dI_ii, dI_ib, dI_is, dI_il, dI_it, dI_bi, dI_bb, dI_bs, dI_bl, dI_bt, dI_si, dI_sb, dI_ss, dI_sl, dI_st, dI_li, dI_lb, dI_ls, dI_ll, dI_lt, dI_ti, dI_tb, dI_ts, dI_tl, dI_tt, dI_ni, dI_nb, dI_ns, dI_nl, dI_nt, Option.map_some, List.length_cons, List.length_nil, List.getElem?_cons_zero, List.getElem?_cons_succ, List.getElem?_nil, List.set_cons_zero, List.set_cons_succ, List.set_nil, List.map_cons, List.map_nil, List.cons_append, List.nil_append, List.append_nil, List.replicate, List.getD_cons_zero, List.getD_cons_succ, List.contains_nil, List.contains_cons, Nat.reduceBEq, Bool.or_false, Bool.false_or, Bool.or_self, Bool.or_true, Bool.true_or, List.isEmpty_nil, List.isEmpty_cons, decide_true, decide_false, if_true, if_false, Bool.false_eq_true, Bool.not_true, Bool.not_false, Bool.and_true, Bool.true_and, Bool.and_self, Bool.and_false, Bool.false_and, reduceIte, Nat.zero_add, Nat.reduceAdd, Nat.reduceSub, Nat.reduceLT, Nat.reduceLeDiff, Nat.reduceEqDiff, decide_eq_true_eq, eq_self, Option.some.injEq, reduceCtorEq, Nat.lt_irrefl, hz]
  rw [evSs_cons]; simp -implicitDefEqProofs only [evS, evT, evE, evP, evPs, evV, evA, evAnd, evOr, evI, Pv.a0, Pv.a1, Pv.v0, Pv.v1, opd, slotOf, satOp, Pv.two, Pv.one, ob_s, ob_n, sc_int, sc_bl, sc_str, sc_non, bd_ok, bd_exc, thenE_ok, thenE_exc, thenT_ok, thenT_exc, thenA_ok, thenI_ok, fl_nx, fl_ret, fl_exc, fl_bk, fl_ct, fl_nil, evSs_nil, asBl, asInt, un_non, un_bl, un_int, un_str, un_tup, un_lst, un_obj, un_un, fz, fzs, isSc, isScs, isFz, isFzs, isOwn, isOwns, dNeg, dT, tgA, setAll, okS, res, at2, it_tup, it_lst, chnD, lItems, tmps, cpyLoc, cpyTmp, ixTmp, ioPos, outFl, outsOf, fzs_ints, Pv.sto1, Pv.sto2, ownItems, at2_0, at2_1, at3_0, at3_1, at3_2, at4_0, at4_1, at4_2, at4_3, ix_20, ix_21, ix_40, ix_41, ix_42, ix_43, List.length_map, isFzs, d2_add, d2_sub, d2_lt, d2_le, d2_gt, d2_ge, d2_eq, d2_ne, d2_eqs, d2_eqb, d2_isn_non, d2_isn_int, d2_isn_bl, d2_isn_str, d2_isn_tup, d2_isn_lst, d2_notn_non, d2_notn_int, d2_notn_bl, d2_notn_str, d2_notn_tup, d2_notn_lst, d2_mod, d2_fdiv, Int.reduceToNat, Int.reducePow, Int.reduceEq, Int.reduceLT, Int.reduceLE, Int.reduceNeg, Int.reduceMul, Int.reduceAdd, Int.reduceSub, cst0, cst1, cst2, cst3, cst4, cst5, cst6, cst7, cst8, cst9, cst10, cst11, cst12, ne_eq, not_false_eq_true, not_true_eq_false, dF_gcd, dF_lenL, dF_lenT, dF_int, dF_intb, dF_abs, dF_min, dF_max, dI_ii, dI_ib, dI_is, dI_il, dI_it, dI_bi, dI_bb, dI_bs, dI_bl, dI_bt, dI_si, dI_sb, dI_ss, dI_sl, dI_st, dI_li, dI_lb, dI_ls, dI_ll, dI_lt, dI_ti, dI_tb, dI_ts, dI_tl, dI_tt, dI_ni, dI_nb, dI_ns, dI_nl, dI_nt, Option.map_some, List.length_cons, List.length_nil, List.getElem?_cons_zero, List.getElem?_cons_succ, List.getElem?_nil, List.set_cons_zero, List.set_cons_succ, List.set_nil, List.map_cons, List.map_nil, List.cons_append, List.nil_append, List.append_nil, List.replicate, List.getD_cons_zero, List.getD_cons_succ, List.contains_nil, List.contains_cons, Nat.reduceBEq, Bool.or_false, Bool.false_or, Bool.or_self, Bool.or_true, Bool.true_or, List.isEmpty_nil, List.isEmpty_cons, decide_true, decide_false, if_true, if_false, Bool.false_eq_true, Bool.not_true, Bool.not_false, Bool.and_true, Bool.true_and, Bool.and_self, Bool.and_false, Bool.false_and, reduceIte, Nat.zero_add, Nat.reduceAdd, Nat.reduceSub, Nat.reduceLT, Nat.reduceLeDiff, Nat.reduceEqDiff, decide_eq_true_eq, eq_self, Option.some.injEq, reduceCtorEq, Nat.lt_irrefl, hz]
  rw [evSs_cons]; simp -implicitDefEqProofs only [evS, evT, evE, evP, evPs, evV, evA, evAnd, evOr, evI, Pv.a0, Pv.a1, Pv.v0, Pv.v1, opd, slotOf, satOp, Pv.two, Pv.one, ob_s, ob_n, sc_int, sc_bl, sc_str, sc_non, bd_ok, bd_exc, thenE_ok, thenE_exc, thenT_ok, thenT_exc, thenA_ok, thenI_ok, fl_nx, fl_ret, fl_exc, fl_bk, fl_ct, fl_nil, evSs_nil, asBl, asInt, un_non, un_bl, un_int, un_str, un_tup, un_lst, un_obj, un_un, fz, fzs, isSc, isScs, isFz, isFzs, isOwn, isOwns, dNeg, dT, tgA, setAll, okS, res, at2, it_tup, it_lst, chnD, lItems, tmps, cpyLoc, cpyTmp, ixTmp, ioPos, outFl, outsOf, fzs_ints, Pv.sto1, Pv.sto2, ownItems, at2_0, at2_1, at3_0, at3_1, at3_2, at4_0, at4_1, at4_2, at4_3, ix_20, ix_21, ix_40, ix_41, ix_42, ix_43, List.length_map, isFzs, d2_add, d2_sub, d2_lt, d2_le, d2_gt, d2_ge, d2_eq, d2_ne, d2_eqs, d2_eqb, d2_isn_non, d2_isn_int, d2_isn_bl, d2_isn_str, d2_isn_tup, d2_isn_lst, d2_notn_non, d2_notn_int, d2_notn_bl, d2_notn_str, d2_notn_tup, d2_notn_lst, d2_mod, d2_fdiv, Int.reduceToNat, Int.reducePow, Int.reduceEq, Int.reduceLT, Int.reduceLE, Int.reduceNeg, Int.reduceMul, Int.reduceAdd, Int.reduceSub, cst0, cst1, cst2, cst3, cst4, cst5, cst6, cst7, cst8, cst9, cst10, cst11, cst12, ne_eq, not_false_eq_true, not_true_eq_false, dF_gcd, dF_lenL, dF_lenT, dF_int, dF_intb, dF_abs, dF_min, dF_max, dI_ii, dI_ib, dI_is, dI_il, dI_it, dI_bi, dI_bb, dI_bs, dI_bl, dI_bt, dI_si, dI_sb, dI_ss, dI_sl, dI_st, dI_li, dI_lb, dI_ls, dI_ll, dI_lt, dI_ti, dI_tb, dI_ts, dI_tl, dI_tt, dI_ni, dI_nb, dI_ns, dI_nl, dI_nt, Option.map_some, List.length_cons, List.length_nil, List.getElem?_cons_zero, List.getElem?_cons_succ, List.getElem?_nil, List.set_cons_zero, List.set_cons_succ, List.set_nil, List.map_cons, List.map_nil, List.cons_append, List.nil_append, List.append_nil, List.replicate, List.getD_cons_zero, List.getD_cons_succ, List.contains_nil, List.contains_cons, Nat.reduceBEq, Bool.or_false, Bool.false_or, Bool.or_self, Bool.or_true, Bool.true_or, List.isEmpty_nil, List.isEmpty_cons, decide_true, decide_false, if_true, if_false, Bool.false_eq_true, Bool.not_true, Bool.not_false, Bool.and_true, Bool.true_and, Bool.and_self, Bool.and_false, Bool.false_and, reduceIte, Nat.zero_add, Nat.reduceAdd, Nat.reduceSub, Nat.reduceLT, Nat.reduceLeDiff, Nat.reduceEqDiff, decide_eq_true_eq, eq_self, Option.some.injEq, reduceCtorEq, Nat.lt_irrefl, hz]
  rw [evSs_cons]; simp -implicitDefEqProofs only [evS, evT, evE, evP, evPs, evV, evA, evAnd, evOr, evI, Pv.a0, Pv.a1, Pv.v0, Pv.v1, opd, slotOf, satOp, Pv.two, Pv.one, ob_s, ob_n, sc_int, sc_bl, sc_str, sc_non, bd_ok, bd_exc, thenE_ok, thenE_exc, thenT_ok, thenT_exc, thenA_ok, thenI_ok, fl_nx, fl_ret, fl_exc, fl_bk, fl_ct, fl_nil, evSs_nil, asBl, asInt, un_non, un_bl, un_int, un_str, un_tup, un_lst, un_obj, un_un, fz, fzs, isSc, isScs, isFz, isFzs, isOwn, isOwns, dNeg, dT, tgA, setAll, okS, res, at2, it_tup, it_lst, chnD, lItems, tmps, cpyLoc, cpyTmp, ixTmp, ioPos, outFl, outsOf, fzs_ints, Pv.sto1, Pv.sto2, ownItems, at2_0, at2_1, at3_0, at3_1, at3_2, at4_0, at4_1, at4_2, at4_3, ix_20, ix_21, ix_40, ix_41, ix_42, ix_43, List.length_map, isFzs, d2_add, d2_sub, d2_lt, d2_le, d2_gt, d2_ge, d2_eq, d2_ne, d2_eqs, d2_eqb, d2_isn_non, d2_isn_int, d2_isn_bl, d2_isn_str, d2_isn_tup, d2_isn_lst, d2_notn_non, d2_notn_int, d2_notn_bl, d2_notn_str, d2_notn_tup, d2_notn_lst, d2_mod, d2_fdiv, Int.reduceToNat, Int.reducePow, Int.reduceEq, Int.reduceLT, Int.reduceLE, Int.reduceNeg, Int.reduceMul, Int.reduceAdd, Int.reduceSub, cst0, cst1, cst2, cst3, cst4, cst5, cst6, cst7, cst8, cst9, cst10, cst11, cst12, ne_eq, not_false_eq_true, not_true_eq_false, dF_gcd, dF_lenL, dF_lenT, dF_int, dF_intb, dF_abs, dF_min, dF_max, dI_ii, dI_ib, dI_is, dI_il, dI_it, dI_bi, dI_bb, dI_bs, dI_bl, dI_bt, dI_si, dI_sb, dI_ss, dI_sl, dI_st, dI_li, dI_lb, dI_ls, dI_ll, dI_lt, dI_ti, dI_tb, dI_ts, dI_tl, dI_tt, dI_ni, dI_nb, dI_ns, dI_nl, dI_nt, Option.map_some, List.length_cons, List.length_nil, List.getElem?_cons_zero, List.getElem?_cons_succ, List.getElem?_nil, List.set_cons_zero, List.set_cons_succ, List.set_nil, List.map_cons, List.map_nil, List.cons_append, List.nil_append, List.append_nil, List.replicate, List.getD_cons_zero, List.getD_cons_succ, List.contains_nil, List.contains_cons, Nat.reduceBEq, Bool.or_false, Bool.false_or, Bool.or_self, Bool.or_true, Bool.true_or, List.isEmpty_nil, List.isEmpty_cons, decide_true, decide_false, if_true, if_false, Bool.false_eq_true, Bool.not_true, Bool.not_false, Bool.and_true, Bool.true_and, Bool.and_self, Bool.and_false, Bool.false_and, reduceIte, Nat.zero_add, Nat.reduceAdd, Nat.reduceSub, Nat.reduceLT, Nat.reduceLeDiff, Nat.reduceEqDiff, decide_eq_true_eq, eq_self, Option.some.injEq, reduceCtorEq, Nat.lt_irrefl, hz]
  rw [evSs_cons]; simp -implicitDefEqProofs only [evS, evT, evE, evP, evPs, evV, evA, evAnd, evOr, evI, Pv.a0, Pv.a1, Pv.v0, Pv.v1, opd, slotOf, satOp, Pv.two, Pv.one, ob_s, ob_n, sc_int, sc_bl, sc_str, sc_non, bd_ok, bd_exc, thenE_ok, thenE_exc, thenT_ok, thenT_exc, thenA_ok, thenI_ok, fl_nx, fl_ret, fl_exc, fl_bk, fl_ct, fl_nil, evSs_nil, asBl, asInt, un_non, un_bl, un_int, un_str, un_tup, un_lst, un_obj, un_un, fz, fzs, isSc, isScs, isFz, isFzs, isOwn, isOwns, dNeg, dT, tgA, setAll, okS, res, at2, it_tup, it_lst, chnD, lItems, tmps, cpyLoc, cpyTmp, ixTmp, ioPos, outFl, outsOf, fzs_ints, Pv.sto1, Pv.sto2, ownItems, at2_0, at2_1, at3_0, at3_1, at3_2, at4_0, at4_1, at4_2, at4_3, ix_20, ix_21, ix_40, ix_41, ix_42, ix_43, List.length_map, isFzs, d2_add, d2_sub, d2_lt, d2_le, d2_gt, d2_ge, d2_eq, d2_ne, d2_eqs, d2_eqb, d2_isn_non, d2_isn_int, d2_isn_bl, d2_isn_str, d2_isn_tup, d2_isn_lst, d2_notn_non, d2_notn_int, d2_notn_bl, d2_notn_str, d2_notn_tup, d2_notn_lst, d2_mod, d2_fdiv, Int.reduceToNat, Int.reducePow, Int.reduceEq, Int.reduceLT, Int.reduceLE, Int.reduceNeg, Int.reduceMul, Int.reduceAdd, Int.reduceSub, cst0, cst1, cst2, cst3, cst4, cst5, cst6, cst7, cst8, cst9, cst10, cst11, cst12, ne_eq, not_false_eq_true, not_true_eq_false, dF_gcd, dF_lenL, dF_lenT, dF_int, dF_intb, dF_abs, dF_min, dF_max, dI_ii, dI_ib, dI_is, dI_il, dI_it, dI_bi, dI_bb, dI_bs, dI_bl, dI_bt, dI_si, dI_sb, dI_ss, dI_sl, dI_st, dI_li, dI_lb, dI_ls, dI_ll, dI_lt, dI_ti, dI_tb, dI_ts, dI_tl, dI_tt, dI_ni, dI_nb, dI_ns, dI_nl, dI_nt, Option.map_some, List.length_cons, List.length_nil, List.getElem?_cons_zero, List.getElem?_cons_succ, List.getElem?_nil, List.set_cons_zero, List.set_cons_succ, List.set_nil, List.map_cons, List.map_nil, List.cons_append, List.nil_append, List.append_nil, List.replicate, List.getD_cons_zero, List.getD_cons_succ, List.contains_nil, List.contains_cons, Nat.reduceBEq, Bool.or_false, Bool.false_or, Bool.or_self, Bool.or_true, Bool.true_or, List.isEmpty_nil, List.isEmpty_cons, decide_true, decide_false, if_true, if_false, Bool.false_eq_true, Bool.not_true, Bool.not_false, Bool.and_true, Bool.true_and, Bool.and_self, Bool.and_false, Bool.false_and, reduceIte, Nat.zero_add, Nat.reduceAdd, Nat.reduceSub, Nat.reduceLT, Nat.reduceLeDiff, Nat.reduceEqDiff, decide_eq_true_eq, eq_self, Option.some.injEq, reduceCtorEq, Nat.lt_irrefl, hz]
  rw [evSs_cons, evS, ql3 xs hz]; simp -implicitDefEqProofs only [evS, evT, evE, evP, evPs, evV, evA, evAnd, evOr, evI, Pv.a0, Pv.a1, Pv.v0, Pv.v1, opd, slotOf, satOp, Pv.two, Pv.one, ob_s, ob_n, sc_int, sc_bl, sc_str, sc_non, bd_ok, bd_exc, thenE_ok, thenE_exc, thenT_ok, thenT_exc, thenA_ok, thenI_ok, fl_nx, fl_ret, fl_exc, fl_bk, fl_ct, fl_nil, evSs_nil, asBl, asInt, un_non, un_bl, un_int, un_str, un_tup, un_lst, un_obj, un_un, fz, fzs, isSc, isScs, isFz, isFzs, isOwn, isOwns, dNeg, dT, tgA, setAll, okS, res, at2, it_tup, it_lst, chnD, lItems, tmps, cpyLoc, cpyTmp, ixTmp, ioPos, outFl, outsOf, fzs_ints, Pv.sto1, Pv.sto2, ownItems, at2_0, at2_1, at3_0, at3_1, at3_2, at4_0, at4_1, at4_2, at4_3, ix_20, ix_21, ix_40, ix_41, ix_42, ix_43, List.length_map, isFzs, d2_add, d2_sub, d2_lt, d2_le, d2_gt, d2_ge, d2_eq, d2_ne, d2_eqs, d2_eqb, d2_isn_non, d2_isn_int, d2_isn_bl, d2_isn_str, d2_isn_tup, d2_isn_lst, d2_notn_non, d2_notn_int, d2_notn_bl, d2_notn_str, d2_notn_tup, d2_notn_lst, d2_mod, d2_fdiv, Int.reduceToNat, Int.reducePow, Int.reduceEq, Int.reduceLT, Int.reduceLE, Int.reduceNeg, Int.reduceMul, Int.reduceAdd, Int.reduceSub, cst0, cst1, cst2, cst3, cst4, cst5, cst6, cst7, cst8, cst9, cst10, cst11, cst12, ne_eq, not_false_eq_true, not_true_eq_false, dF_gcd, dF_lenL, dF_lenT, dF_int, dF_intb, dF_abs, dF_min, dF_max, dI_ii, dI_ib, dI_is, dI_il, dI_it, dI_bi, dI_bb, dI_bs, dI_bl, dI_bt, dI_si, dI_sb, dI_ss, dI_sl, dI_st, dI_li, dI_lb, dI_ls, dI_ll, dI_lt, dI_ti, dI_tb, dI_ts, dI_tl, dI_tt, dI_ni, dI_nb, dI_ns, dI_nl, dI_nt, Option.map_some, List.length_cons, List.length_nil, List.getElem?_cons_zero, List.getElem?_cons_succ, List.getElem?_nil, List.set_cons_zero, List.set_cons_succ, List.set_nil, List.map_cons, List.map_nil, List.cons_append, List.nil_append, List.append_nil, List.replicate, List.getD_cons_zero, List.getD_cons_succ, List.contains_nil, List.contains_cons, Nat.reduceBEq, Bool.or_false, Bool.false_or, Bool.or_self, Bool.or_true, Bool.true_or, List.isEmpty_nil, List.isEmpty_cons, decide_true, decide_false, if_true, if_false, Bool.false_eq_true, Bool.not_true, Bool.not_false, Bool.and_true, Bool.true_and, Bool.and_self, Bool.and_false, Bool.false_and, reduceIte, Nat.zero_add, Nat.reduceAdd, Nat.reduceSub, Nat.reduceLT, Nat.reduceLeDiff, Nat.reduceEqDiff, decide_eq_true_eq, eq_self, Option.some.injEq, reduceCtorEq, Nat.lt_irrefl]
  rw [evSs_cons]; simp -implicitDefEqProofs only [evS, evT, evE, evP, evPs, evV, evA, evAnd, evOr, evI, Pv.a0, Pv.a1, Pv.v0, Pv.v1, opd, slotOf, satOp, Pv.two, Pv.one, ob_s, ob_n, sc_int, sc_bl, sc_str, sc_non, bd_ok, bd_exc, thenE_ok, thenE_exc, thenT_ok, thenT_exc, thenA_ok, thenI_ok, fl_nx, fl_ret, fl_exc, fl_bk, fl_ct, fl_nil, evSs_nil, asBl, asInt, un_non, un_bl, un_int, un_str, un_tup, un_lst, un_obj, un_un, fz, fzs, isSc, isScs, isFz, isFzs, isOwn, isOwns, dNeg, dT, tgA, setAll, okS, res, at2, it_tup, it_lst, chnD, lItems, tmps, cpyLoc, cpyTmp, ixTmp, ioPos, outFl, outsOf, fzs_ints, Pv.sto1, Pv.sto2, ownItems, at2_0, at2_1, at3_0, at3_1, at3_2, at4_0, at4_1, at4_2, at4_3, ix_20, ix_21, ix_40, ix_41, ix_42, ix_43, List.length_map, isFzs, d2_add, d2_sub, d2_lt, d2_le, d2_gt, d2_ge, d2_eq, d2_ne, d2_eqs, d2_eqb, d2_isn_non, d2_isn_int, d2_isn_bl, d2_isn_str, d2_isn_tup, d2_isn_lst, d2_notn_non, d2_notn_int, d2_notn_bl, d2_notn_str, d2_notn_tup, d2_notn_lst, d2_mod, d2_fdiv, Int.reduceToNat, Int.reducePow, Int.reduceEq, Int.reduceLT, Int.reduceLE, Int.reduceNeg, Int.reduceMul, Int.reduceAdd, Int.reduceSub, cst0, cst1, cst2, cst3, cst4, cst5, cst6, cst7, cst8, cst9, cst10, cst11, cst12, ne_eq, not_false_eq_true, not_true_eq_false, dF_gcd, dF_lenL, dF_lenT, dF_int, dF_intb, dF_abs, dF_min, dF_max, dI_ii, dI_ib, dI_is, dI_il, dI_it, dI_bi, dI_bb, dI_bs, dI_bl, dI_bt, dI_si, dI_sb, dI_ss, dI_sl, dI_st, dI_li, dI_lb, dI_ls, dI_ll, dI_lt, dI_ti, dI_tb, dI_ts, dI_tl, dI_tt, dI_ni, dI_nb, dI_ns, dI_nl, dI_nt, Option.map_some, List.length_cons, List.length_nil, List.getElem?_cons_zero, List.getElem?_cons_succ, List.getElem?_nil, List.set_cons_zero, List.set_cons_succ, List.set_nil, List.map_cons, List.map_nil, List.cons_append, List.nil_append, List.append_nil, List.replicate, List.getD_cons_zero, List.getD_cons_succ, List.contains_nil, List.contains_cons, Nat.reduceBEq, Bool.or_false, Bool.false_or, Bool.or_self, Bool.or_true, Bool.true_or, List.isEmpty_nil, List.isEmpty_cons, decide_true, decide_false, if_true, if_false, Bool.false_eq_true, Bool.not_true, Bool.not_false, Bool.and_true, Bool.true_and, Bool.and_self, Bool.and_false, Bool.false_and, reduceIte, Nat.zero_add, Nat.reduceAdd, Nat.reduceSub, Nat.reduceLT, Nat.reduceLeDiff, Nat.reduceEqDiff, decide_eq_true_eq, eq_self, Option.some.injEq, reduceCtorEq, Nat.lt_irrefl, hz, hr, rngD, ht]
  unfold same_body at e
  rw [e]
  simp -implicitDefEqProofs only [evS, evT, evE, evP, evPs, evV, evA, evAnd, evOr, evI, Pv.a0, Pv.a1, Pv.v0, Pv.v1, opd, slotOf, satOp, Pv.two, Pv.one, ob_s, ob_n, sc_int, sc_bl, sc_str, sc_non, bd_ok, bd_exc, thenE_ok, thenE_exc, thenT_ok, thenT_exc, thenA_ok, thenI_ok, fl_nx, fl_ret, fl_exc, fl_bk, fl_ct, fl_nil, evSs_nil, asBl, asInt, un_non, un_bl, un_int, un_str, un_tup, un_lst, un_obj, un_un, fz, fzs, isSc, isScs, isFz, isFzs, isOwn, isOwns, dNeg, dT, tgA, setAll, okS, res, at2, it_tup, it_lst, chnD, lItems, tmps, cpyLoc, cpyTmp, ixTmp, ioPos, outFl, outsOf, fzs_ints, Pv.sto1, Pv.sto2, ownItems, at2_0, at2_1, at3_0, at3_1, at3_2, at4_0, at4_1, at4_2, at4_3, ix_20, ix_21, ix_40, ix_41, ix_42, ix_43, List.length_map, isFzs, d2_add, d2_sub, d2_lt, d2_le, d2_gt, d2_ge, d2_eq, d2_ne, d2_eqs, d2_eqb, d2_isn_non, d2_isn_int, d2_isn_bl, d2_isn_str, d2_isn_tup, d2_isn_lst, d2_notn_non, d2_notn_int, d2_notn_bl, d2_notn_str, d2_notn_tup, d2_notn_lst, d2_mod, d2_fdiv, Int.reduceToNat, Int.reducePow, Int.reduceEq, Int.reduceLT, Int.reduceLE, Int.reduceNeg, Int.reduceMul, Int.reduceAdd, Int.reduceSub, cst0, cst1, cst2, cst3, cst4, cst5, cst6, cst7, cst8, cst9, cst10, cst11, cst12, ne_eq, not_false_eq_true, not_true_eq_false, dF_gcd, dF_lenL, dF_lenT, dF_int, dF_intb, dF_abs, dF_min, dF_max, dI_ii, dI_ib, dI_is, dI_il, dI_it, dI_bi, dI_bb, dI_bs, dI_bl, dI_bt, dI_si, dI_sb, dI_ss, dI_sl, dI_st, dI_li, dI_lb, dI_ls, dI_ll, dI_lt, dI_ti, dI_tb, dI_ts, dI_tl, dI_tt, dI_ni, dI_nb, dI_ns, dI_nl, dI_nt, Option.map_some, List.length_cons, List.length_nil, List.getElem?_cons_zero, List.getElem?_cons_succ, List.getElem?_nil, List.set_cons_zero, List.set_cons_succ, List.set_nil, List.map_cons, List.map_nil, List.cons_append, List.nil_append, List.append_nil, List.replicate, List.getD_cons_zero, List.getD_cons_succ, List.contains_nil, List.contains_cons, Nat.reduceBEq, Bool.or_false, Bool.false_or, Bool.or_self, Bool.or_true, Bool.true_or, List.isEmpty_nil, List.isEmpty_cons, decide_true, decide_false, if_true, if_false, Bool.false_eq_true, Bool.not_true, Bool.not_false, Bool.and_true, Bool.true_and, Bool.and_self, Bool.and_false, Bool.false_and, reduceIte, Nat.zero_add, Nat.reduceAdd, Nat.reduceSub, Nat.reduceLT, Nat.reduceLeDiff, Nat.reduceEqDiff, decide_eq_true_eq, eq_self, Option.some.injEq, reduceCtorEq, Nat.lt_irrefl]
  rw [evSs_cons]; simp -implicitDefEqProofs only [evS, evT, evE, evP, evPs, evV, evA, evAnd, evOr, evI, Pv.a0, Pv.a1, Pv.v0, Pv.v1, opd, slotOf, satOp, Pv.two, Pv.one, ob_s, ob_n, sc_int, sc_bl, sc_str, sc_non, bd_ok, bd_exc, thenE_ok, thenE_exc, thenT_ok, thenT_exc, thenA_ok, thenI_ok, fl_nx, fl_ret, fl_exc, fl_bk, fl_ct, fl_nil, evSs_nil, asBl, asInt, un_non, un_bl, un_int, un_str, un_tup, un_lst, un_obj, un_un, fz, fzs, isSc, isScs, isFz, isFzs, isOwn, isOwns, dNeg, dT, tgA, setAll, okS, res, at2, it_tup, it_lst, chnD, lItems, tmps, cpyLoc, cpyTmp, ixTmp, ioPos, outFl, outsOf, fzs_ints, Pv.sto1, Pv.sto2, ownItems, at2_0, at2_1, at3_0, at3_1, at3_2, at4_0, at4_1, at4_2, at4_3, ix_20, ix_21, ix_40, ix_41, ix_42, ix_43, List.length_map, isFzs, d2_add, d2_sub, d2_lt, d2_le, d2_gt, d2_ge, d2_eq, d2_ne, d2_eqs, d2_eqb, d2_isn_non, d2_isn_int, d2_isn_bl, d2_isn_str, d2_isn_tup, d2_isn_lst, d2_notn_non, d2_notn_int, d2_notn_bl, d2_notn_str, d2_notn_tup, d2_notn_lst, d2_mod, d2_fdiv, Int.reduceToNat, Int.reducePow, Int.reduceEq, Int.reduceLT, Int.reduceLE, Int.reduceNeg, Int.reduceMul, Int.reduceAdd, Int.reduceSub, cst0, cst1, cst2, cst3, cst4, cst5, cst6, cst7, cst8, cst9, cst10, cst11, cst12, ne_eq, not_false_eq_true, not_true_eq_false, dF_gcd, dF_lenL, dF_lenT, dF_int, dF_intb, dF_abs, dF_min, dF_max, dI_ii, dI_ib, dI_is, dI_il, dI_it, dI_bi, dI_bb, dI_bs, dI_bl, dI_bt, dI_si, dI_sb, dI_ss, dI_sl, dI_st, dI_li, dI_lb, dI_ls, dI_ll, dI_lt, dI_ti, dI_tb, dI_ts, dI_tl, dI_tt, dI_ni, dI_nb, dI_ns, dI_nl, dI_nt, Option.map_some, List.length_cons, List.length_nil, List.getElem?_cons_zero, List.getElem?_cons_succ, List.getElem?_nil, List.set_cons_zero, List.set_cons_succ, List.set_nil, List.map_cons, List.map_nil, List.cons_append, List.nil_append, List.append_nil, List.replicate, List.getD_cons_zero, List.getD_cons_succ, List.contains_nil, List.contains_cons, Nat.reduceBEq, Bool.or_false, Bool.false_or, Bool.or_self, Bool.or_true, Bool.true_or, List.isEmpty_nil, List.isEmpty_cons, decide_true, decide_false, if_true, if_false, Bool.false_eq_true, Bool.not_true, Bool.not_false, Bool.and_true, Bool.true_and, Bool.and_self, Bool.and_false, Bool.false_and, reduceIte, Nat.zero_add, Nat.reduceAdd, Nat.reduceSub, Nat.reduceLT, Nat.reduceLeDiff, Nat.reduceEqDiff, decide_eq_true_eq, eq_self, Option.some.injEq, reduceCtorEq, Nat.lt_irrefl]
theorem hm_L_same (k : Nat) : ∀ ds o, m_same (k + 1) ds = some o → ∃ n, evFn n [false, false] 3 (b_L_same k) ds = some o := by
  intro ds o h
  refine ⟨0, ?_⟩
  match ds, h with
  | [t, d], h =>
    simp only [m_same] at h
    split at h
    case isFalse => cases h
    rename_i hc
    cases h
    obtain ⟨h1, h2⟩ := ands hc
    have e := eqD_ok h1
    subst e
    cases t with
    | un => simp [plain] at h2
    | obj _ _ _ _ => simp [plain] at h2
    | non => exact hs_a k
    | bl b => exact hs_b k b
    | int i => exact hs_i k i
    | str s => exact hs_s k s
    | tup xs =>
      simp only [plain, Bool.and_eq_true, decide_eq_true_eq] at h2
      exact hs_t k xs h2.1 h2.2
    | lst o xs =>
      simp only [plain, Bool.and_eq_true, decide_eq_true_eq, Bool.not_eq_true'] at h2
      obtain ⟨ho, hl, hp⟩ := h2
      subst ho
      exact hs_l k xs hl hp
end Pv

set_option maxHeartbeats 4000000
namespace Pv
open PySem
/-! ### fractions as they are passed -/
theorem call_io1' {m : List D → Option Out} {s : Nat} {d d' v : D} {rs : List D} (h : rs[s]? = some d) (hm : m [d] = some (.ret v [d'])) : callD ⟨[true], m⟩ [.loc s] rs = some (.ok v (rs.set s d')) := by
  have e : rs.getD s .un = d := by rw [List.getD_eq_getElem?_getD, h]; rfl
  by_cases c : (isOwn v && isOwns [d']) = true
  · simp [callD, ioOf, nodupB, passD, blank, res, h, hm, c, putBack]
  · simp [callD, ioOf, nodupB, passD, blank, res, h, hm, c, putBack, tmps, isFzs, freezeV]
theorem ixLoc_at {s : Nat} {k : Int} {rs xs : List D} {d c : D} (h : rs[s]? = some d) (hx : itemsOf d = some xs) (ha : L2.atI xs k = some c) : ixLoc s (.int k) rs = some (.ok (fz c) (rs.set s (setAt d xs k (fz c)))) := by
  unfold ixLoc
  dsimp only
  rw [h, ob_s, hx, ob_s, ha, ob_s]
  split
  · rename_i hz
    have e : setAt d xs k (fz c) = d := by
      rw [fz_id c hz]
      unfold setAt
      unfold L2.atI at ha
      split
      · rename_i j ej
        rw [ej] at ha
        have : xs.set j c = xs := set_same ha
        rw [this]
        cases d <;> simp_all [itemsOf, withItems]
      · rfl
    rw [e, set_same h, fz_id c hz]
  · rfl
/-- a fraction, as it is passed -/
def isFrD : D → Bool
  | .int _ => true
  | .tup [.int _, .int b] => decide (1 ≤ b)
  | _ => false
/-- what may be asked -/
def frAsk : D → Bool
  | .non => true
  | .bl _ => true
  | .int _ => true
  | .str _ => true
  | .lst false xs => isFzs xs
  | .tup [a, b] => (tyName a).isSome && (tyName b).isSome && isFz a && isFz b
  | .tup xs => decide (xs.length ≠ 2) && isFzs xs
  | _ => false
def m_is_fraction (ds : List D) : Option Out := match ds with
  | [d] => if frAsk d then some (.ret (.bl (isFrD d)) []) else none
  | _ => none
def F_is_fraction : Fn := ⟨[false], m_is_fraction⟩
def b_is_fraction : Ss := .cons (.ite (.call "is_whole" F_is_whole (.cons (.var 0) (.nil))) (.cons (.ret (.con (.bl true))) (.nil)) (.nil)) (.cons (.ite (.lor (.cons (.lnot (.pk (.isi (.var 0) "tuple"))) (.cons (.pk (.op2 .ne (.fnc .len (.cons (.var 0) (.nil))) (.con (.int 2)))) (.nil)))) (.cons (.ret (.con (.bl false))) (.nil)) (.nil)) (.cons (.ret (.land (.cons (.call "is_whole" F_is_whole (.cons (.ix (.var 0) (.con (.int 0))) (.nil))) (.cons (.call "is_whole" F_is_whole (.cons (.ix (.var 0) (.con (.int 1))) (.nil))) (.cons (.pk (.op2 .ge (.ix (.var 0) (.con (.int 1))) (.con (.int 1)))) (.nil)))))) (.nil)))
def n_is_fraction : Nat := 1
theorem frAsk_fz {d : D} (h : frAsk d = true) : isFz d = true := by
  cases d with
  | lst o xs => cases o <;> simp_all [frAsk, isFz]
  | tup xs =>
    match xs, h with
    | [], _ => rfl
    | [a], h => simpa [frAsk, isFz] using h
    | [a, b], h =>
      simp only [frAsk, Bool.and_eq_true] at h
      simp [isFz, isFzs, h.1.2, h.2]
    | a :: b :: c :: l, h => simpa [frAsk, isFz] using h
  | _ => first | rfl | (simp [frAsk] at h)
theorem iswhole_res {A : Arg} {rs : List D} {d : D} (h : res rs A = d) (hn : (tyName d).isSome = true) : callD F_is_whole [A] rs = some (.ok (.bl (isIntD d)) rs) := call_v1 (by
  rw [h]
  show m_is_int [d] = _
  cases d <;> first | rfl | (simp [tyName] at hn)) rfl
theorem d2_nei (i j : Int) (h : i ≠ j) : d2 .ne (.int i) (.int j) = some (.bl true) := by simp [d2, h]
theorem d2_nee (i : Int) : d2 .ne (.int i) (.int i) = some (.bl false) := by simp [d2]
theorem fr_tup {xs : List D} (hz : fzs xs = xs) (h : xs.length ≠ 2) : evFn 0 [false] 1 b_is_fraction [.tup xs] = some (.ret (.bl false) []) := by
  unfold evFn b_is_fraction
  have e1 := iswhole_res (A := .loc 0) (rs := [.tup xs]) (d := .tup xs) (by simp [res, fz, hz]) rfl
  rw [evSs_cons]; simp -implicitDefEqProofs only [evS, evT, evE, evP, evPs, evV, evA, evAnd, evOr, evI, Pv.a0, Pv.a1, Pv.v0, Pv.v1, opd, slotOf, satOp, Pv.two, Pv.one, ob_s, ob_n, sc_int, sc_bl, sc_str, sc_non, bd_ok, bd_exc, thenE_ok, thenE_exc, thenT_ok, thenT_exc, thenA_ok, thenI_ok, fl_nx, fl_ret, fl_exc, fl_bk, fl_ct, fl_nil, evSs_nil, asBl, asInt, un_non, un_bl, un_int, un_str, un_tup, un_lst, un_obj, un_un, fz, fzs, isSc, isScs, isFz, isFzs, isOwn, isOwns, dNeg, dT, tgA, setAll, okS, res, at2, it_tup, it_lst, chnD, lItems, tmps, cpyLoc, cpyTmp, ixTmp, ioPos, outFl, outsOf, fzs_ints, Pv.sto1, Pv.sto2, ownItems, at2_0, at2_1, at3_0, at3_1, at3_2, at4_0, at4_1, at4_2, at4_3, ix_20, ix_21, ix_40, ix_41, ix_42, ix_43, List.length_map, isFzs, d2_add, d2_sub, d2_lt, d2_le, d2_gt, d2_ge, d2_eq, d2_ne, d2_eqs, d2_eqb, d2_isn_non, d2_isn_int, d2_isn_bl, d2_isn_str, d2_isn_tup, d2_isn_lst, d2_notn_non, d2_notn_int, d2_notn_bl, d2_notn_str, d2_notn_tup, d2_notn_lst, d2_mod, d2_fdiv, Int.reduceToNat, Int.reducePow, Int.reduceEq, Int.reduceLT, Int.reduceLE, Int.reduceNeg, Int.reduceMul, Int.reduceAdd, Int.reduceSub, cst0, cst1, cst2, cst3, cst4, cst5, cst6, cst7, cst8, cst9, cst10, cst11, cst12, ne_eq, not_false_eq_true, not_true_eq_false, dF_gcd, dF_lenL, dF_lenT, dF_int, dF_intb, dF_abs, dF_min, dF_max, dI_ii, dI_ib, dI_is, dI_il, dI_it, dI_bi, dI_bb, dI_bs, dI_bl, dI_bt, dI_si, dI_sb, dI_ss, dI_sl, dI_st, dI_li, dI_lb, dI_ls, dI_ll, dI_lt, dI_ti, dI_tb, dI_ts, dI_tl, dI_tt, dI_ni, dI_nb, dI_ns, dI_nl, dI_nt, Option.map_some, List.length_cons, List.length_nil, List.getElem?_cons_zero, List.getElem?_cons_succ, List.getElem?_nil, List.set_cons_zero, List.set_cons_succ, List.set_nil, List.map_cons, List.map_nil, List.cons_append, List.nil_append, List.append_nil, List.replicate, List.getD_cons_zero, List.getD_cons_succ, List.contains_nil, List.contains_cons, Nat.reduceBEq, Bool.or_false, Bool.false_or, Bool.or_self, Bool.or_true, Bool.true_or, List.isEmpty_nil, List.isEmpty_cons, decide_true, decide_false, if_true, if_false, Bool.false_eq_true, Bool.not_true, Bool.not_false, Bool.and_true, Bool.true_and, Bool.and_self, Bool.and_false, Bool.false_and, reduceIte, Nat.zero_add, Nat.reduceAdd, Nat.reduceSub, Nat.reduceLT, Nat.reduceLeDiff, Nat.reduceEqDiff, decide_eq_true_eq, eq_self, Option.some.injEq, reduceCtorEq, Nat.lt_irrefl, e1, isIntD, hz]
  have h' : ¬ ((xs.length : Int) = 2) := by omega
  rw [evSs_cons]
  simp -implicitDefEqProofs only [evS, evT, evE, evP, evPs, evV, evA, evAnd, evOr, evI, Pv.a0, Pv.a1, Pv.v0, Pv.v1, opd, slotOf, satOp, Pv.two, Pv.one, ob_s, ob_n, sc_int, sc_bl, sc_str, sc_non, bd_ok, bd_exc, thenE_ok, thenE_exc, thenT_ok, thenT_exc, thenA_ok, thenI_ok, fl_nx, fl_ret, fl_exc, fl_bk, fl_ct, fl_nil, evSs_nil, asBl, asInt, un_non, un_bl, un_int, un_str, un_tup, un_lst, un_obj, un_un, fz, fzs, isSc, isScs, isFz, isFzs, isOwn, isOwns, dNeg, dT, tgA, setAll, okS, res, at2, it_tup, it_lst, chnD, lItems, tmps, cpyLoc, cpyTmp, ixTmp, ioPos, outFl, outsOf, fzs_ints, Pv.sto1, Pv.sto2, ownItems, at2_0, at2_1, at3_0, at3_1, at3_2, at4_0, at4_1, at4_2, at4_3, ix_20, ix_21, ix_40, ix_41, ix_42, ix_43, List.length_map, isFzs, d2_add, d2_sub, d2_lt, d2_le, d2_gt, d2_ge, d2_eq, d2_ne, d2_eqs, d2_eqb, d2_isn_non, d2_isn_int, d2_isn_bl, d2_isn_str, d2_isn_tup, d2_isn_lst, d2_notn_non, d2_notn_int, d2_notn_bl, d2_notn_str, d2_notn_tup, d2_notn_lst, d2_mod, d2_fdiv, Int.reduceToNat, Int.reducePow, Int.reduceEq, Int.reduceLT, Int.reduceLE, Int.reduceNeg, Int.reduceMul, Int.reduceAdd, Int.reduceSub, cst0, cst1, cst2, cst3, cst4, cst5, cst6, cst7, cst8, cst9, cst10, cst11, cst12, ne_eq, not_false_eq_true, not_true_eq_false, dF_gcd, dF_lenL, dF_lenT, dF_int, dF_intb, dF_abs, dF_min, dF_max, dI_ii, dI_ib, dI_is, dI_il, dI_it, dI_bi, dI_bb, dI_bs, dI_bl, dI_bt, dI_si, dI_sb, dI_ss, dI_sl, dI_st, dI_li, dI_lb, dI_ls, dI_ll, dI_lt, dI_ti, dI_tb, dI_ts, dI_tl, dI_tt, dI_ni, dI_nb, dI_ns, dI_nl, dI_nt, Option.map_some, List.length_cons, List.length_nil, List.getElem?_cons_zero, List.getElem?_cons_succ, List.getElem?_nil, List.set_cons_zero, List.set_cons_succ, List.set_nil, List.map_cons, List.map_nil, List.cons_append, List.nil_append, List.append_nil, List.replicate, List.getD_cons_zero, List.getD_cons_succ, List.contains_nil, List.contains_cons, Nat.reduceBEq, Bool.or_false, Bool.false_or, Bool.or_self, Bool.or_true, Bool.true_or, List.isEmpty_nil, List.isEmpty_cons, decide_true, decide_false, if_true, if_false, Bool.false_eq_true, Bool.not_true, Bool.not_false, Bool.and_true, Bool.true_and, Bool.and_self, Bool.and_false, Bool.false_and, reduceIte, Nat.zero_add, Nat.reduceAdd, Nat.reduceSub, Nat.reduceLT, Nat.reduceLeDiff, Nat.reduceEqDiff, decide_eq_true_eq, eq_self, Option.some.injEq, reduceCtorEq, Nat.lt_irrefl, hz, h', evSs_cons]
theorem hm_is_fraction : ∀ ds o, m_is_fraction ds = some o → ∃ n, evFn n [false] 1 b_is_fraction ds = some o := by
  intro ds o h
  refine ⟨0, ?_⟩
  match ds, h with
  | [d], h =>
    simp only [m_is_fraction] at h
    split at h
    case isFalse => cases h
    rename_i ha
    cases h
    have hz := fz_id d (frAsk_fz ha)
    cases d with
    | un => simp [frAsk] at ha
    | obj _ _ _ _ => simp [frAsk] at ha
    | tup xs =>
      match xs, ha, hz with
      | [], ha, hz => exact fr_tup rfl (by decide)
      | [a], ha, hz =>
        have e : isFrD (.tup [a]) = false := by cases a <;> rfl
        rw [e]
        exact fr_tup (by simpa [fz] using hz) (by simp)
      | a :: b :: c :: l, ha, hz =>
        have e : isFrD (.tup (a :: b :: c :: l)) = false := by cases a <;> first | rfl | (cases b <;> rfl)
        rw [e]
        exact fr_tup (by simpa [fz] using hz) (by simp)
      | [a, b], ha, hz =>
        simp only [frAsk, Bool.and_eq_true] at ha
        obtain ⟨⟨⟨ha1, ha2⟩, ha3⟩, ha4⟩ := ha
        have e1 := iswhole_res (A := .loc 0) (rs := [.tup [a, b]]) (d := .tup [a, b]) (by simpa [res] using hz) rfl
        have e2 := iswhole_res (A := .tmp a) (rs := [.tup [a, b]]) (d := a) (by simpa [res] using fz_id a ha3) ha1
        have e3 := iswhole_res (A := .tmp b) (rs := [.tup [a, b]]) (d := b) (by simpa [res] using fz_id b ha4) ha2
        have za := fz_id a ha3
        have zb := fz_id b ha4
        unfold evFn b_is_fraction
        rw [evSs_cons]; simp -implicitDefEqProofs only [evS, evT, evE, evP, evPs, evV, evA, evAnd, evOr, evI, Pv.a0, Pv.a1, Pv.v0, Pv.v1, opd, slotOf, satOp, Pv.two, Pv.one, ob_s, ob_n, sc_int, sc_bl, sc_str, sc_non, bd_ok, bd_exc, thenE_ok, thenE_exc, thenT_ok, thenT_exc, thenA_ok, thenI_ok, fl_nx, fl_ret, fl_exc, fl_bk, fl_ct, fl_nil, evSs_nil, asBl, asInt, un_non, un_bl, un_int, un_str, un_tup, un_lst, un_obj, un_un, fz, fzs, isSc, isScs, isFz, isFzs, isOwn, isOwns, dNeg, dT, tgA, setAll, okS, res, at2, it_tup, it_lst, chnD, lItems, tmps, cpyLoc, cpyTmp, ixTmp, ioPos, outFl, outsOf, fzs_ints, Pv.sto1, Pv.sto2, ownItems, at2_0, at2_1, at3_0, at3_1, at3_2, at4_0, at4_1, at4_2, at4_3, ix_20, ix_21, ix_40, ix_41, ix_42, ix_43, List.length_map, isFzs, d2_add, d2_sub, d2_lt, d2_le, d2_gt, d2_ge, d2_eq, d2_ne, d2_eqs, d2_eqb, d2_isn_non, d2_isn_int, d2_isn_bl, d2_isn_str, d2_isn_tup, d2_isn_lst, d2_notn_non, d2_notn_int, d2_notn_bl, d2_notn_str, d2_notn_tup, d2_notn_lst, d2_mod, d2_fdiv, Int.reduceToNat, Int.reducePow, Int.reduceEq, Int.reduceLT, Int.reduceLE, Int.reduceNeg, Int.reduceMul, Int.reduceAdd, Int.reduceSub, cst0, cst1, cst2, cst3, cst4, cst5, cst6, cst7, cst8, cst9, cst10, cst11, cst12, ne_eq, not_false_eq_true, not_true_eq_false, dF_gcd, dF_lenL, dF_lenT, dF_int, dF_intb, dF_abs, dF_min, dF_max, dI_ii, dI_ib, dI_is, dI_il, dI_it, dI_bi, dI_bb, dI_bs, dI_bl, dI_bt, dI_si, dI_sb, dI_ss, dI_sl, dI_st, dI_li, dI_lb, dI_ls, dI_ll, dI_lt, dI_ti, dI_tb, dI_ts, dI_tl, dI_tt, dI_ni, dI_nb, dI_ns, dI_nl, dI_nt, Option.map_some, List.length_cons, List.length_nil, List.getElem?_cons_zero, List.getElem?_cons_succ, List.getElem?_nil, List.set_cons_zero, List.set_cons_succ, List.set_nil, List.map_cons, List.map_nil, List.cons_append, List.nil_append, List.append_nil, List.replicate, List.getD_cons_zero, List.getD_cons_succ, List.contains_nil, List.contains_cons, Nat.reduceBEq, Bool.or_false, Bool.false_or, Bool.or_self, Bool.or_true, Bool.true_or, List.isEmpty_nil, List.isEmpty_cons, decide_true, decide_false, if_true, if_false, Bool.false_eq_true, Bool.not_true, Bool.not_false, Bool.and_true, Bool.true_and, Bool.and_self, Bool.and_false, Bool.false_and, reduceIte, Nat.zero_add, Nat.reduceAdd, Nat.reduceSub, Nat.reduceLT, Nat.reduceLeDiff, Nat.reduceEqDiff, decide_eq_true_eq, eq_self, Option.some.injEq, reduceCtorEq, Nat.lt_irrefl, e1, isIntD]
        rw [evSs_cons]; simp -implicitDefEqProofs only [evS, evT, evE, evP, evPs, evV, evA, evAnd, evOr, evI, Pv.a0, Pv.a1, Pv.v0, Pv.v1, opd, slotOf, satOp, Pv.two, Pv.one, ob_s, ob_n, sc_int, sc_bl, sc_str, sc_non, bd_ok, bd_exc, thenE_ok, thenE_exc, thenT_ok, thenT_exc, thenA_ok, thenI_ok, fl_nx, fl_ret, fl_exc, fl_bk, fl_ct, fl_nil, evSs_nil, asBl, asInt, un_non, un_bl, un_int, un_str, un_tup, un_lst, un_obj, un_un, fz, fzs, isSc, isScs, isFz, isFzs, isOwn, isOwns, dNeg, dT, tgA, setAll, okS, res, at2, it_tup, it_lst, chnD, lItems, tmps, cpyLoc, cpyTmp, ixTmp, ioPos, outFl, outsOf, fzs_ints, Pv.sto1, Pv.sto2, ownItems, at2_0, at2_1, at3_0, at3_1, at3_2, at4_0, at4_1, at4_2, at4_3, ix_20, ix_21, ix_40, ix_41, ix_42, ix_43, List.length_map, isFzs, d2_add, d2_sub, d2_lt, d2_le, d2_gt, d2_ge, d2_eq, d2_ne, d2_eqs, d2_eqb, d2_isn_non, d2_isn_int, d2_isn_bl, d2_isn_str, d2_isn_tup, d2_isn_lst, d2_notn_non, d2_notn_int, d2_notn_bl, d2_notn_str, d2_notn_tup, d2_notn_lst, d2_mod, d2_fdiv, Int.reduceToNat, Int.reducePow, Int.reduceEq, Int.reduceLT, Int.reduceLE, Int.reduceNeg, Int.reduceMul, Int.reduceAdd, Int.reduceSub, cst0, cst1, cst2, cst3, cst4, cst5, cst6, cst7, cst8, cst9, cst10, cst11, cst12, ne_eq, not_false_eq_true, not_true_eq_false, dF_gcd, dF_lenL, dF_lenT, dF_int, dF_intb, dF_abs, dF_min, dF_max, dI_ii, dI_ib, dI_is, dI_il, dI_it, dI_bi, dI_bb, dI_bs, dI_bl, dI_bt, dI_si, dI_sb, dI_ss, dI_sl, dI_st, dI_li, dI_lb, dI_ls, dI_ll, dI_lt, dI_ti, dI_tb, dI_ts, dI_tl, dI_tt, dI_ni, dI_nb, dI_ns, dI_nl, dI_nt, Option.map_some, List.length_cons, List.length_nil, List.getElem?_cons_zero, List.getElem?_cons_succ, List.getElem?_nil, List.set_cons_zero, List.set_cons_succ, List.set_nil, List.map_cons, List.map_nil, List.cons_append, List.nil_append, List.append_nil, List.replicate, List.getD_cons_zero, List.getD_cons_succ, List.contains_nil, List.contains_cons, Nat.reduceBEq, Bool.or_false, Bool.false_or, Bool.or_self, Bool.or_true, Bool.true_or, List.isEmpty_nil, List.isEmpty_cons, decide_true, decide_false, if_true, if_false, Bool.false_eq_true, Bool.not_true, Bool.not_false, Bool.and_true, Bool.true_and, Bool.and_self, Bool.and_false, Bool.false_and, reduceIte, Nat.zero_add, Nat.reduceAdd, Nat.reduceSub, Nat.reduceLT, Nat.reduceLeDiff, Nat.reduceEqDiff, decide_eq_true_eq, eq_self, Option.some.injEq, reduceCtorEq, Nat.lt_irrefl, za, zb]
        rw [evSs_cons]
        simp -implicitDefEqProofs only [evS, evT, evE, evP, evPs, evV, evA, evAnd, evOr, evI, Pv.a0, Pv.a1, Pv.v0, Pv.v1, opd, slotOf, satOp, Pv.two, Pv.one, ob_s, ob_n, sc_int, sc_bl, sc_str, sc_non, bd_ok, bd_exc, thenE_ok, thenE_exc, thenT_ok, thenT_exc, thenA_ok, thenI_ok, fl_nx, fl_ret, fl_exc, fl_bk, fl_ct, fl_nil, evSs_nil, asBl, asInt, un_non, un_bl, un_int, un_str, un_tup, un_lst, un_obj, un_un, fz, fzs, isSc, isScs, isFz, isFzs, isOwn, isOwns, dNeg, dT, tgA, setAll, okS, res, at2, it_tup, it_lst, chnD, lItems, tmps, cpyLoc, cpyTmp, ixTmp, ioPos, outFl, outsOf, fzs_ints, Pv.sto1, Pv.sto2, ownItems, at2_0, at2_1, at3_0, at3_1, at3_2, at4_0, at4_1, at4_2, at4_3, ix_20, ix_21, ix_40, ix_41, ix_42, ix_43, List.length_map, isFzs, d2_add, d2_sub, d2_lt, d2_le, d2_gt, d2_ge, d2_eq, d2_ne, d2_eqs, d2_eqb, d2_isn_non, d2_isn_int, d2_isn_bl, d2_isn_str, d2_isn_tup, d2_isn_lst, d2_notn_non, d2_notn_int, d2_notn_bl, d2_notn_str, d2_notn_tup, d2_notn_lst, d2_mod, d2_fdiv, Int.reduceToNat, Int.reducePow, Int.reduceEq, Int.reduceLT, Int.reduceLE, Int.reduceNeg, Int.reduceMul, Int.reduceAdd, Int.reduceSub, cst0, cst1, cst2, cst3, cst4, cst5, cst6, cst7, cst8, cst9, cst10, cst11, cst12, ne_eq, not_false_eq_true, not_true_eq_false, dF_gcd, dF_lenL, dF_lenT, dF_int, dF_intb, dF_abs, dF_min, dF_max, dI_ii, dI_ib, dI_is, dI_il, dI_it, dI_bi, dI_bb, dI_bs, dI_bl, dI_bt, dI_si, dI_sb, dI_ss, dI_sl, dI_st, dI_li, dI_lb, dI_ls, dI_ll, dI_lt, dI_ti, dI_tb, dI_ts, dI_tl, dI_tt, dI_ni, dI_nb, dI_ns, dI_nl, dI_nt, Option.map_some, List.length_cons, List.length_nil, List.getElem?_cons_zero, List.getElem?_cons_succ, List.getElem?_nil, List.set_cons_zero, List.set_cons_succ, List.set_nil, List.map_cons, List.map_nil, List.cons_append, List.nil_append, List.append_nil, List.replicate, List.getD_cons_zero, List.getD_cons_succ, List.contains_nil, List.contains_cons, Nat.reduceBEq, Bool.or_false, Bool.false_or, Bool.or_self, Bool.or_true, Bool.true_or, List.isEmpty_nil, List.isEmpty_cons, decide_true, decide_false, if_true, if_false, Bool.false_eq_true, Bool.not_true, Bool.not_false, Bool.and_true, Bool.true_and, Bool.and_self, Bool.and_false, Bool.false_and, reduceIte, Nat.zero_add, Nat.reduceAdd, Nat.reduceSub, Nat.reduceLT, Nat.reduceLeDiff, Nat.reduceEqDiff, decide_eq_true_eq, eq_self, Option.some.injEq, reduceCtorEq, Nat.lt_irrefl, e2, e3, ixLoc, ha3, ha4, za, zb]
        cases a <;> first | (simp -implicitDefEqProofs only [evS, evT, evE, evP, evPs, evV, evA, evAnd, evOr, evI, Pv.a0, Pv.a1, Pv.v0, Pv.v1, opd, slotOf, satOp, Pv.two, Pv.one, ob_s, ob_n, sc_int, sc_bl, sc_str, sc_non, bd_ok, bd_exc, thenE_ok, thenE_exc, thenT_ok, thenT_exc, thenA_ok, thenI_ok, fl_nx, fl_ret, fl_exc, fl_bk, fl_ct, fl_nil, evSs_nil, asBl, asInt, un_non, un_bl, un_int, un_str, un_tup, un_lst, un_obj, un_un, fz, fzs, isSc, isScs, isFz, isFzs, isOwn, isOwns, dNeg, dT, tgA, setAll, okS, res, at2, it_tup, it_lst, chnD, lItems, tmps, cpyLoc, cpyTmp, ixTmp, ioPos, outFl, outsOf, fzs_ints, Pv.sto1, Pv.sto2, ownItems, at2_0, at2_1, at3_0, at3_1, at3_2, at4_0, at4_1, at4_2, at4_3, ix_20, ix_21, ix_40, ix_41, ix_42, ix_43, List.length_map, isFzs, d2_add, d2_sub, d2_lt, d2_le, d2_gt, d2_ge, d2_eq, d2_ne, d2_eqs, d2_eqb, d2_isn_non, d2_isn_int, d2_isn_bl, d2_isn_str, d2_isn_tup, d2_isn_lst, d2_notn_non, d2_notn_int, d2_notn_bl, d2_notn_str, d2_notn_tup, d2_notn_lst, d2_mod, d2_fdiv, Int.reduceToNat, Int.reducePow, Int.reduceEq, Int.reduceLT, Int.reduceLE, Int.reduceNeg, Int.reduceMul, Int.reduceAdd, Int.reduceSub, cst0, cst1, cst2, cst3, cst4, cst5, cst6, cst7, cst8, cst9, cst10, cst11, cst12, ne_eq, not_false_eq_true, not_true_eq_false, dF_gcd, dF_lenL, dF_lenT, dF_int, dF_intb, dF_abs, dF_min, dF_max, dI_ii, dI_ib, dI_is, dI_il, dI_it, dI_bi, dI_bb, dI_bs, dI_bl, dI_bt, dI_si, dI_sb, dI_ss, dI_sl, dI_st, dI_li, dI_lb, dI_ls, dI_ll, dI_lt, dI_ti, dI_tb, dI_ts, dI_tl, dI_tt, dI_ni, dI_nb, dI_ns, dI_nl, dI_nt, Option.map_some, List.length_cons, List.length_nil, List.getElem?_cons_zero, List.getElem?_cons_succ, List.getElem?_nil, List.set_cons_zero, List.set_cons_succ, List.set_nil, List.map_cons, List.map_nil, List.cons_append, List.nil_append, List.append_nil, List.replicate, List.getD_cons_zero, List.getD_cons_succ, List.contains_nil, List.contains_cons, Nat.reduceBEq, Bool.or_false, Bool.false_or, Bool.or_self, Bool.or_true, Bool.true_or, List.isEmpty_nil, List.isEmpty_cons, decide_true, decide_false, if_true, if_false, Bool.false_eq_true, Bool.not_true, Bool.not_false, Bool.and_true, Bool.true_and, Bool.and_self, Bool.and_false, Bool.false_and, reduceIte, Nat.zero_add, Nat.reduceAdd, Nat.reduceSub, Nat.reduceLT, Nat.reduceLeDiff, Nat.reduceEqDiff, decide_eq_true_eq, eq_self, Option.some.injEq, reduceCtorEq, Nat.lt_irrefl, isIntD, isFrD]; done) | skip
        cases b <;> first | (simp -implicitDefEqProofs only [evS, evT, evE, evP, evPs, evV, evA, evAnd, evOr, evI, Pv.a0, Pv.a1, Pv.v0, Pv.v1, opd, slotOf, satOp, Pv.two, Pv.one, ob_s, ob_n, sc_int, sc_bl, sc_str, sc_non, bd_ok, bd_exc, thenE_ok, thenE_exc, thenT_ok, thenT_exc, thenA_ok, thenI_ok, fl_nx, fl_ret, fl_exc, fl_bk, fl_ct, fl_nil, evSs_nil, asBl, asInt, un_non, un_bl, un_int, un_str, un_tup, un_lst, un_obj, un_un, fz, fzs, isSc, isScs, isFz, isFzs, isOwn, isOwns, dNeg, dT, tgA, setAll, okS, res, at2, it_tup, it_lst, chnD, lItems, tmps, cpyLoc, cpyTmp, ixTmp, ioPos, outFl, outsOf, fzs_ints, Pv.sto1, Pv.sto2, ownItems, at2_0, at2_1, at3_0, at3_1, at3_2, at4_0, at4_1, at4_2, at4_3, ix_20, ix_21, ix_40, ix_41, ix_42, ix_43, List.length_map, isFzs, d2_add, d2_sub, d2_lt, d2_le, d2_gt, d2_ge, d2_eq, d2_ne, d2_eqs, d2_eqb, d2_isn_non, d2_isn_int, d2_isn_bl, d2_isn_str, d2_isn_tup, d2_isn_lst, d2_notn_non, d2_notn_int, d2_notn_bl, d2_notn_str, d2_notn_tup, d2_notn_lst, d2_mod, d2_fdiv, Int.reduceToNat, Int.reducePow, Int.reduceEq, Int.reduceLT, Int.reduceLE, Int.reduceNeg, Int.reduceMul, Int.reduceAdd, Int.reduceSub, cst0, cst1, cst2, cst3, cst4, cst5, cst6, cst7, cst8, cst9, cst10, cst11, cst12, ne_eq, not_false_eq_true, not_true_eq_false, dF_gcd, dF_lenL, dF_lenT, dF_int, dF_intb, dF_abs, dF_min, dF_max, dI_ii, dI_ib, dI_is, dI_il, dI_it, dI_bi, dI_bb, dI_bs, dI_bl, dI_bt, dI_si, dI_sb, dI_ss, dI_sl, dI_st, dI_li, dI_lb, dI_ls, dI_ll, dI_lt, dI_ti, dI_tb, dI_ts, dI_tl, dI_tt, dI_ni, dI_nb, dI_ns, dI_nl, dI_nt, Option.map_some, List.length_cons, List.length_nil, List.getElem?_cons_zero, List.getElem?_cons_succ, List.getElem?_nil, List.set_cons_zero, List.set_cons_succ, List.set_nil, List.map_cons, List.map_nil, List.cons_append, List.nil_append, List.append_nil, List.replicate, List.getD_cons_zero, List.getD_cons_succ, List.contains_nil, List.contains_cons, Nat.reduceBEq, Bool.or_false, Bool.false_or, Bool.or_self, Bool.or_true, Bool.true_or, List.isEmpty_nil, List.isEmpty_cons, decide_true, decide_false, if_true, if_false, Bool.false_eq_true, Bool.not_true, Bool.not_false, Bool.and_true, Bool.true_and, Bool.and_self, Bool.and_false, Bool.false_and, reduceIte, Nat.zero_add, Nat.reduceAdd, Nat.reduceSub, Nat.reduceLT, Nat.reduceLeDiff, Nat.reduceEqDiff, decide_eq_true_eq, eq_self, Option.some.injEq, reduceCtorEq, Nat.lt_irrefl, isIntD, isFrD]; done) | skip
        rename_i i j
        by_cases c : (1 : Int) ≤ j <;> simp -implicitDefEqProofs only [evS, evT, evE, evP, evPs, evV, evA, evAnd, evOr, evI, Pv.a0, Pv.a1, Pv.v0, Pv.v1, opd, slotOf, satOp, Pv.two, Pv.one, ob_s, ob_n, sc_int, sc_bl, sc_str, sc_non, bd_ok, bd_exc, thenE_ok, thenE_exc, thenT_ok, thenT_exc, thenA_ok, thenI_ok, fl_nx, fl_ret, fl_exc, fl_bk, fl_ct, fl_nil, evSs_nil, asBl, asInt, un_non, un_bl, un_int, un_str, un_tup, un_lst, un_obj, un_un, fz, fzs, isSc, isScs, isFz, isFzs, isOwn, isOwns, dNeg, dT, tgA, setAll, okS, res, at2, it_tup, it_lst, chnD, lItems, tmps, cpyLoc, cpyTmp, ixTmp, ioPos, outFl, outsOf, fzs_ints, Pv.sto1, Pv.sto2, ownItems, at2_0, at2_1, at3_0, at3_1, at3_2, at4_0, at4_1, at4_2, at4_3, ix_20, ix_21, ix_40, ix_41, ix_42, ix_43, List.length_map, isFzs, d2_add, d2_sub, d2_lt, d2_le, d2_gt, d2_ge, d2_eq, d2_ne, d2_eqs, d2_eqb, d2_isn_non, d2_isn_int, d2_isn_bl, d2_isn_str, d2_isn_tup, d2_isn_lst, d2_notn_non, d2_notn_int, d2_notn_bl, d2_notn_str, d2_notn_tup, d2_notn_lst, d2_mod, d2_fdiv, Int.reduceToNat, Int.reducePow, Int.reduceEq, Int.reduceLT, Int.reduceLE, Int.reduceNeg, Int.reduceMul, Int.reduceAdd, Int.reduceSub, cst0, cst1, cst2, cst3, cst4, cst5, cst6, cst7, cst8, cst9, cst10, cst11, cst12, ne_eq, not_false_eq_true, not_true_eq_false, dF_gcd, dF_lenL, dF_lenT, dF_int, dF_intb, dF_abs, dF_min, dF_max, dI_ii, dI_ib, dI_is, dI_il, dI_it, dI_bi, dI_bb, dI_bs, dI_bl, dI_bt, dI_si, dI_sb, dI_ss, dI_sl, dI_st, dI_li, dI_lb, dI_ls, dI_ll, dI_lt, dI_ti, dI_tb, dI_ts, dI_tl, dI_tt, dI_ni, dI_nb, dI_ns, dI_nl, dI_nt, Option.map_some, List.length_cons, List.length_nil, List.getElem?_cons_zero, List.getElem?_cons_succ, List.getElem?_nil, List.set_cons_zero, List.set_cons_succ, List.set_nil, List.map_cons, List.map_nil, List.cons_append, List.nil_append, List.append_nil, List.replicate, List.getD_cons_zero, List.getD_cons_succ, List.contains_nil, List.contains_cons, Nat.reduceBEq, Bool.or_false, Bool.false_or, Bool.or_self, Bool.or_true, Bool.true_or, List.isEmpty_nil, List.isEmpty_cons, decide_true, decide_false, if_true, if_false, Bool.false_eq_true, Bool.not_true, Bool.not_false, Bool.and_true, Bool.true_and, Bool.and_self, Bool.and_false, Bool.false_and, reduceIte, Nat.zero_add, Nat.reduceAdd, Nat.reduceSub, Nat.reduceLT, Nat.reduceLeDiff, Nat.reduceEqDiff, decide_eq_true_eq, eq_self, Option.some.injEq, reduceCtorEq, Nat.lt_irrefl, isIntD, isFrD, c]
    | lst o xs =>
      have e1 := iswhole_res (A := .loc 0) (rs := [.lst o xs]) (d := .lst o xs) (by simpa [res] using hz) rfl
      unfold evFn b_is_fraction
      rw [evSs_cons]; simp -implicitDefEqProofs only [evS, evT, evE, evP, evPs, evV, evA, evAnd, evOr, evI, Pv.a0, Pv.a1, Pv.v0, Pv.v1, opd, slotOf, satOp, Pv.two, Pv.one, ob_s, ob_n, sc_int, sc_bl, sc_str, sc_non, bd_ok, bd_exc, thenE_ok, thenE_exc, thenT_ok, thenT_exc, thenA_ok, thenI_ok, fl_nx, fl_ret, fl_exc, fl_bk, fl_ct, fl_nil, evSs_nil, asBl, asInt, un_non, un_bl, un_int, un_str, un_tup, un_lst, un_obj, un_un, fz, fzs, isSc, isScs, isFz, isFzs, isOwn, isOwns, dNeg, dT, tgA, setAll, okS, res, at2, it_tup, it_lst, chnD, lItems, tmps, cpyLoc, cpyTmp, ixTmp, ioPos, outFl, outsOf, fzs_ints, Pv.sto1, Pv.sto2, ownItems, at2_0, at2_1, at3_0, at3_1, at3_2, at4_0, at4_1, at4_2, at4_3, ix_20, ix_21, ix_40, ix_41, ix_42, ix_43, List.length_map, isFzs, d2_add, d2_sub, d2_lt, d2_le, d2_gt, d2_ge, d2_eq, d2_ne, d2_eqs, d2_eqb, d2_isn_non, d2_isn_int, d2_isn_bl, d2_isn_str, d2_isn_tup, d2_isn_lst, d2_notn_non, d2_notn_int, d2_notn_bl, d2_notn_str, d2_notn_tup, d2_notn_lst, d2_mod, d2_fdiv, Int.reduceToNat, Int.reducePow, Int.reduceEq, Int.reduceLT, Int.reduceLE, Int.reduceNeg, Int.reduceMul, Int.reduceAdd, Int.reduceSub, cst0, cst1, cst2, cst3, cst4, cst5, cst6, cst7, cst8, cst9, cst10, cst11, cst12, ne_eq, not_false_eq_true, not_true_eq_false, dF_gcd, dF_lenL, dF_lenT, dF_int, dF_intb, dF_abs, dF_min, dF_max, dI_ii, dI_ib, dI_is, dI_il, dI_it, dI_bi, dI_bb, dI_bs, dI_bl, dI_bt, dI_si, dI_sb, dI_ss, dI_sl, dI_st, dI_li, dI_lb, dI_ls, dI_ll, dI_lt, dI_ti, dI_tb, dI_ts, dI_tl, dI_tt, dI_ni, dI_nb, dI_ns, dI_nl, dI_nt, Option.map_some, List.length_cons, List.length_nil, List.getElem?_cons_zero, List.getElem?_cons_succ, List.getElem?_nil, List.set_cons_zero, List.set_cons_succ, List.set_nil, List.map_cons, List.map_nil, List.cons_append, List.nil_append, List.append_nil, List.replicate, List.getD_cons_zero, List.getD_cons_succ, List.contains_nil, List.contains_cons, Nat.reduceBEq, Bool.or_false, Bool.false_or, Bool.or_self, Bool.or_true, Bool.true_or, List.isEmpty_nil, List.isEmpty_cons, decide_true, decide_false, if_true, if_false, Bool.false_eq_true, Bool.not_true, Bool.not_false, Bool.and_true, Bool.true_and, Bool.and_self, Bool.and_false, Bool.false_and, reduceIte, Nat.zero_add, Nat.reduceAdd, Nat.reduceSub, Nat.reduceLT, Nat.reduceLeDiff, Nat.reduceEqDiff, decide_eq_true_eq, eq_self, Option.some.injEq, reduceCtorEq, Nat.lt_irrefl, e1, isIntD]
      have hz' : fzs xs = xs ∧ o = false := by simp [fz] at hz; exact ⟨hz.2, hz.1⟩
      rw [evSs_cons]; simp -implicitDefEqProofs only [evS, evT, evE, evP, evPs, evV, evA, evAnd, evOr, evI, Pv.a0, Pv.a1, Pv.v0, Pv.v1, opd, slotOf, satOp, Pv.two, Pv.one, ob_s, ob_n, sc_int, sc_bl, sc_str, sc_non, bd_ok, bd_exc, thenE_ok, thenE_exc, thenT_ok, thenT_exc, thenA_ok, thenI_ok, fl_nx, fl_ret, fl_exc, fl_bk, fl_ct, fl_nil, evSs_nil, asBl, asInt, un_non, un_bl, un_int, un_str, un_tup, un_lst, un_obj, un_un, fz, fzs, isSc, isScs, isFz, isFzs, isOwn, isOwns, dNeg, dT, tgA, setAll, okS, res, at2, it_tup, it_lst, chnD, lItems, tmps, cpyLoc, cpyTmp, ixTmp, ioPos, outFl, outsOf, fzs_ints, Pv.sto1, Pv.sto2, ownItems, at2_0, at2_1, at3_0, at3_1, at3_2, at4_0, at4_1, at4_2, at4_3, ix_20, ix_21, ix_40, ix_41, ix_42, ix_43, List.length_map, isFzs, d2_add, d2_sub, d2_lt, d2_le, d2_gt, d2_ge, d2_eq, d2_ne, d2_eqs, d2_eqb, d2_isn_non, d2_isn_int, d2_isn_bl, d2_isn_str, d2_isn_tup, d2_isn_lst, d2_notn_non, d2_notn_int, d2_notn_bl, d2_notn_str, d2_notn_tup, d2_notn_lst, d2_mod, d2_fdiv, Int.reduceToNat, Int.reducePow, Int.reduceEq, Int.reduceLT, Int.reduceLE, Int.reduceNeg, Int.reduceMul, Int.reduceAdd, Int.reduceSub, cst0, cst1, cst2, cst3, cst4, cst5, cst6, cst7, cst8, cst9, cst10, cst11, cst12, ne_eq, not_false_eq_true, not_true_eq_false, dF_gcd, dF_lenL, dF_lenT, dF_int, dF_intb, dF_abs, dF_min, dF_max, dI_ii, dI_ib, dI_is, dI_il, dI_it, dI_bi, dI_bb, dI_bs, dI_bl, dI_bt, dI_si, dI_sb, dI_ss, dI_sl, dI_st, dI_li, dI_lb, dI_ls, dI_ll, dI_lt, dI_ti, dI_tb, dI_ts, dI_tl, dI_tt, dI_ni, dI_nb, dI_ns, dI_nl, dI_nt, Option.map_some, List.length_cons, List.length_nil, List.getElem?_cons_zero, List.getElem?_cons_succ, List.getElem?_nil, List.set_cons_zero, List.set_cons_succ, List.set_nil, List.map_cons, List.map_nil, List.cons_append, List.nil_append, List.append_nil, List.replicate, List.getD_cons_zero, List.getD_cons_succ, List.contains_nil, List.contains_cons, Nat.reduceBEq, Bool.or_false, Bool.false_or, Bool.or_self, Bool.or_true, Bool.true_or, List.isEmpty_nil, List.isEmpty_cons, decide_true, decide_false, if_true, if_false, Bool.false_eq_true, Bool.not_true, Bool.not_false, Bool.and_true, Bool.true_and, Bool.and_self, Bool.and_false, Bool.false_and, reduceIte, Nat.zero_add, Nat.reduceAdd, Nat.reduceSub, Nat.reduceLT, Nat.reduceLeDiff, Nat.reduceEqDiff, decide_eq_true_eq, eq_self, Option.some.injEq, reduceCtorEq, Nat.lt_irrefl, hz'.1, isFrD, evSs_cons]
    | non  =>
      have e1 := iswhole_res (A := .loc 0) (rs := [.non]) (d := .non) rfl rfl
      unfold evFn b_is_fraction
      rw [evSs_cons]; simp -implicitDefEqProofs only [evS, evT, evE, evP, evPs, evV, evA, evAnd, evOr, evI, Pv.a0, Pv.a1, Pv.v0, Pv.v1, opd, slotOf, satOp, Pv.two, Pv.one, ob_s, ob_n, sc_int, sc_bl, sc_str, sc_non, bd_ok, bd_exc, thenE_ok, thenE_exc, thenT_ok, thenT_exc, thenA_ok, thenI_ok, fl_nx, fl_ret, fl_exc, fl_bk, fl_ct, fl_nil, evSs_nil, asBl, asInt, un_non, un_bl, un_int, un_str, un_tup, un_lst, un_obj, un_un, fz, fzs, isSc, isScs, isFz, isFzs, isOwn, isOwns, dNeg, dT, tgA, setAll, okS, res, at2, it_tup, it_lst, chnD, lItems, tmps, cpyLoc, cpyTmp, ixTmp, ioPos, outFl, outsOf, fzs_ints, Pv.sto1, Pv.sto2, ownItems, at2_0, at2_1, at3_0, at3_1, at3_2, at4_0, at4_1, at4_2, at4_3, ix_20, ix_21, ix_40, ix_41, ix_42, ix_43, List.length_map, isFzs, d2_add, d2_sub, d2_lt, d2_le, d2_gt, d2_ge, d2_eq, d2_ne, d2_eqs, d2_eqb, d2_isn_non, d2_isn_int, d2_isn_bl, d2_isn_str, d2_isn_tup, d2_isn_lst, d2_notn_non, d2_notn_int, d2_notn_bl, d2_notn_str, d2_notn_tup, d2_notn_lst, d2_mod, d2_fdiv, Int.reduceToNat, Int.reducePow, Int.reduceEq, Int.reduceLT, Int.reduceLE, Int.reduceNeg, Int.reduceMul, Int.reduceAdd, Int.reduceSub, cst0, cst1, cst2, cst3, cst4, cst5, cst6, cst7, cst8, cst9, cst10, cst11, cst12, ne_eq, not_false_eq_true, not_true_eq_false, dF_gcd, dF_lenL, dF_lenT, dF_int, dF_intb, dF_abs, dF_min, dF_max, dI_ii, dI_ib, dI_is, dI_il, dI_it, dI_bi, dI_bb, dI_bs, dI_bl, dI_bt, dI_si, dI_sb, dI_ss, dI_sl, dI_st, dI_li, dI_lb, dI_ls, dI_ll, dI_lt, dI_ti, dI_tb, dI_ts, dI_tl, dI_tt, dI_ni, dI_nb, dI_ns, dI_nl, dI_nt, Option.map_some, List.length_cons, List.length_nil, List.getElem?_cons_zero, List.getElem?_cons_succ, List.getElem?_nil, List.set_cons_zero, List.set_cons_succ, List.set_nil, List.map_cons, List.map_nil, List.cons_append, List.nil_append, List.append_nil, List.replicate, List.getD_cons_zero, List.getD_cons_succ, List.contains_nil, List.contains_cons, Nat.reduceBEq, Bool.or_false, Bool.false_or, Bool.or_self, Bool.or_true, Bool.true_or, List.isEmpty_nil, List.isEmpty_cons, decide_true, decide_false, if_true, if_false, Bool.false_eq_true, Bool.not_true, Bool.not_false, Bool.and_true, Bool.true_and, Bool.and_self, Bool.and_false, Bool.false_and, reduceIte, Nat.zero_add, Nat.reduceAdd, Nat.reduceSub, Nat.reduceLT, Nat.reduceLeDiff, Nat.reduceEqDiff, decide_eq_true_eq, eq_self, Option.some.injEq, reduceCtorEq, Nat.lt_irrefl, e1, isIntD, isFrD, evSs_cons]
    | bl b =>
      have e1 := iswhole_res (A := .loc 0) (rs := [(.bl b)]) (d := (.bl b)) rfl rfl
      unfold evFn b_is_fraction
      rw [evSs_cons]; simp -implicitDefEqProofs only [evS, evT, evE, evP, evPs, evV, evA, evAnd, evOr, evI, Pv.a0, Pv.a1, Pv.v0, Pv.v1, opd, slotOf, satOp, Pv.two, Pv.one, ob_s, ob_n, sc_int, sc_bl, sc_str, sc_non, bd_ok, bd_exc, thenE_ok, thenE_exc, thenT_ok, thenT_exc, thenA_ok, thenI_ok, fl_nx, fl_ret, fl_exc, fl_bk, fl_ct, fl_nil, evSs_nil, asBl, asInt, un_non, un_bl, un_int, un_str, un_tup, un_lst, un_obj, un_un, fz, fzs, isSc, isScs, isFz, isFzs, isOwn, isOwns, dNeg, dT, tgA, setAll, okS, res, at2, it_tup, it_lst, chnD, lItems, tmps, cpyLoc, cpyTmp, ixTmp, ioPos, outFl, outsOf, fzs_ints, Pv.sto1, Pv.sto2, ownItems, at2_0, at2_1, at3_0, at3_1, at3_2, at4_0, at4_1, at4_2, at4_3, ix_20, ix_21, ix_40, ix_41, ix_42, ix_43, List.length_map, isFzs, d2_add, d2_sub, d2_lt, d2_le, d2_gt, d2_ge, d2_eq, d2_ne, d2_eqs, d2_eqb, d2_isn_non, d2_isn_int, d2_isn_bl, d2_isn_str, d2_isn_tup, d2_isn_lst, d2_notn_non, d2_notn_int, d2_notn_bl, d2_notn_str, d2_notn_tup, d2_notn_lst, d2_mod, d2_fdiv, Int.reduceToNat, Int.reducePow, Int.reduceEq, Int.reduceLT, Int.reduceLE, Int.reduceNeg, Int.reduceMul, Int.reduceAdd, Int.reduceSub, cst0, cst1, cst2, cst3, cst4, cst5, cst6, cst7, cst8, cst9, cst10, cst11, cst12, ne_eq, not_false_eq_true, not_true_eq_false, dF_gcd, dF_lenL, dF_lenT, dF_int, dF_intb, dF_abs, dF_min, dF_max, dI_ii, dI_ib, dI_is, dI_il, dI_it, dI_bi, dI_bb, dI_bs, dI_bl, dI_bt, dI_si, dI_sb, dI_ss, dI_sl, dI_st, dI_li, dI_lb, dI_ls, dI_ll, dI_lt, dI_ti, dI_tb, dI_ts, dI_tl, dI_tt, dI_ni, dI_nb, dI_ns, dI_nl, dI_nt, Option.map_some, List.length_cons, List.length_nil, List.getElem?_cons_zero, List.getElem?_cons_succ, List.getElem?_nil, List.set_cons_zero, List.set_cons_succ, List.set_nil, List.map_cons, List.map_nil, List.cons_append, List.nil_append, List.append_nil, List.replicate, List.getD_cons_zero, List.getD_cons_succ, List.contains_nil, List.contains_cons, Nat.reduceBEq, Bool.or_false, Bool.false_or, Bool.or_self, Bool.or_true, Bool.true_or, List.isEmpty_nil, List.isEmpty_cons, decide_true, decide_false, if_true, if_false, Bool.false_eq_true, Bool.not_true, Bool.not_false, Bool.and_true, Bool.true_and, Bool.and_self, Bool.and_false, Bool.false_and, reduceIte, Nat.zero_add, Nat.reduceAdd, Nat.reduceSub, Nat.reduceLT, Nat.reduceLeDiff, Nat.reduceEqDiff, decide_eq_true_eq, eq_self, Option.some.injEq, reduceCtorEq, Nat.lt_irrefl, e1, isIntD, isFrD, evSs_cons]
    | int b =>
      have e1 := iswhole_res (A := .loc 0) (rs := [(.int b)]) (d := (.int b)) rfl rfl
      unfold evFn b_is_fraction
      rw [evSs_cons]; simp -implicitDefEqProofs only [evS, evT, evE, evP, evPs, evV, evA, evAnd, evOr, evI, Pv.a0, Pv.a1, Pv.v0, Pv.v1, opd, slotOf, satOp, Pv.two, Pv.one, ob_s, ob_n, sc_int, sc_bl, sc_str, sc_non, bd_ok, bd_exc, thenE_ok, thenE_exc, thenT_ok, thenT_exc, thenA_ok, thenI_ok, fl_nx, fl_ret, fl_exc, fl_bk, fl_ct, fl_nil, evSs_nil, asBl, asInt, un_non, un_bl, un_int, un_str, un_tup, un_lst, un_obj, un_un, fz, fzs, isSc, isScs, isFz, isFzs, isOwn, isOwns, dNeg, dT, tgA, setAll, okS, res, at2, it_tup, it_lst, chnD, lItems, tmps, cpyLoc, cpyTmp, ixTmp, ioPos, outFl, outsOf, fzs_ints, Pv.sto1, Pv.sto2, ownItems, at2_0, at2_1, at3_0, at3_1, at3_2, at4_0, at4_1, at4_2, at4_3, ix_20, ix_21, ix_40, ix_41, ix_42, ix_43, List.length_map, isFzs, d2_add, d2_sub, d2_lt, d2_le, d2_gt, d2_ge, d2_eq, d2_ne, d2_eqs, d2_eqb, d2_isn_non, d2_isn_int, d2_isn_bl, d2_isn_str, d2_isn_tup, d2_isn_lst, d2_notn_non, d2_notn_int, d2_notn_bl, d2_notn_str, d2_notn_tup, d2_notn_lst, d2_mod, d2_fdiv, Int.reduceToNat, Int.reducePow, Int.reduceEq, Int.reduceLT, Int.reduceLE, Int.reduceNeg, Int.reduceMul, Int.reduceAdd, Int.reduceSub, cst0, cst1, cst2, cst3, cst4, cst5, cst6, cst7, cst8, cst9, cst10, cst11, cst12, ne_eq, not_false_eq_true, not_true_eq_false, dF_gcd, dF_lenL, dF_lenT, dF_int, dF_intb, dF_abs, dF_min, dF_max, dI_ii, dI_ib, dI_is, dI_il, dI_it, dI_bi, dI_bb, dI_bs, dI_bl, dI_bt, dI_si, dI_sb, dI_ss, dI_sl, dI_st, dI_li, dI_lb, dI_ls, dI_ll, dI_lt, dI_ti, dI_tb, dI_ts, dI_tl, dI_tt, dI_ni, dI_nb, dI_ns, dI_nl, dI_nt, Option.map_some, List.length_cons, List.length_nil, List.getElem?_cons_zero, List.getElem?_cons_succ, List.getElem?_nil, List.set_cons_zero, List.set_cons_succ, List.set_nil, List.map_cons, List.map_nil, List.cons_append, List.nil_append, List.append_nil, List.replicate, List.getD_cons_zero, List.getD_cons_succ, List.contains_nil, List.contains_cons, Nat.reduceBEq, Bool.or_false, Bool.false_or, Bool.or_self, Bool.or_true, Bool.true_or, List.isEmpty_nil, List.isEmpty_cons, decide_true, decide_false, if_true, if_false, Bool.false_eq_true, Bool.not_true, Bool.not_false, Bool.and_true, Bool.true_and, Bool.and_self, Bool.and_false, Bool.false_and, reduceIte, Nat.zero_add, Nat.reduceAdd, Nat.reduceSub, Nat.reduceLT, Nat.reduceLeDiff, Nat.reduceEqDiff, decide_eq_true_eq, eq_self, Option.some.injEq, reduceCtorEq, Nat.lt_irrefl, e1, isIntD, isFrD, evSs_cons]
    | str b =>
      have e1 := iswhole_res (A := .loc 0) (rs := [(.str b)]) (d := (.str b)) rfl rfl
      unfold evFn b_is_fraction
      rw [evSs_cons]; simp -implicitDefEqProofs only [evS, evT, evE, evP, evPs, evV, evA, evAnd, evOr, evI, Pv.a0, Pv.a1, Pv.v0, Pv.v1, opd, slotOf, satOp, Pv.two, Pv.one, ob_s, ob_n, sc_int, sc_bl, sc_str, sc_non, bd_ok, bd_exc, thenE_ok, thenE_exc, thenT_ok, thenT_exc, thenA_ok, thenI_ok, fl_nx, fl_ret, fl_exc, fl_bk, fl_ct, fl_nil, evSs_nil, asBl, asInt, un_non, un_bl, un_int, un_str, un_tup, un_lst, un_obj, un_un, fz, fzs, isSc, isScs, isFz, isFzs, isOwn, isOwns, dNeg, dT, tgA, setAll, okS, res, at2, it_tup, it_lst, chnD, lItems, tmps, cpyLoc, cpyTmp, ixTmp, ioPos, outFl, outsOf, fzs_ints, Pv.sto1, Pv.sto2, ownItems, at2_0, at2_1, at3_0, at3_1, at3_2, at4_0, at4_1, at4_2, at4_3, ix_20, ix_21, ix_40, ix_41, ix_42, ix_43, List.length_map, isFzs, d2_add, d2_sub, d2_lt, d2_le, d2_gt, d2_ge, d2_eq, d2_ne, d2_eqs, d2_eqb, d2_isn_non, d2_isn_int, d2_isn_bl, d2_isn_str, d2_isn_tup, d2_isn_lst, d2_notn_non, d2_notn_int, d2_notn_bl, d2_notn_str, d2_notn_tup, d2_notn_lst, d2_mod, d2_fdiv, Int.reduceToNat, Int.reducePow, Int.reduceEq, Int.reduceLT, Int.reduceLE, Int.reduceNeg, Int.reduceMul, Int.reduceAdd, Int.reduceSub, cst0, cst1, cst2, cst3, cst4, cst5, cst6, cst7, cst8, cst9, cst10, cst11, cst12, ne_eq, not_false_eq_true, not_true_eq_false, dF_gcd, dF_lenL, dF_lenT, dF_int, dF_intb, dF_abs, dF_min, dF_max, dI_ii, dI_ib, dI_is, dI_il, dI_it, dI_bi, dI_bb, dI_bs, dI_bl, dI_bt, dI_si, dI_sb, dI_ss, dI_sl, dI_st, dI_li, dI_lb, dI_ls, dI_ll, dI_lt, dI_ti, dI_tb, dI_ts, dI_tl, dI_tt, dI_ni, dI_nb, dI_ns, dI_nl, dI_nt, Option.map_some, List.length_cons, List.length_nil, List.getElem?_cons_zero, List.getElem?_cons_succ, List.getElem?_nil, List.set_cons_zero, List.set_cons_succ, List.set_nil, List.map_cons, List.map_nil, List.cons_append, List.nil_append, List.append_nil, List.replicate, List.getD_cons_zero, List.getD_cons_succ, List.contains_nil, List.contains_cons, Nat.reduceBEq, Bool.or_false, Bool.false_or, Bool.or_self, Bool.or_true, Bool.true_or, List.isEmpty_nil, List.isEmpty_cons, decide_true, decide_false, if_true, if_false, Bool.false_eq_true, Bool.not_true, Bool.not_false, Bool.and_true, Bool.true_and, Bool.and_self, Bool.and_false, Bool.false_and, reduceIte, Nat.zero_add, Nat.reduceAdd, Nat.reduceSub, Nat.reduceLT, Nat.reduceLeDiff, Nat.reduceEqDiff, decide_eq_true_eq, eq_self, Option.some.injEq, reduceCtorEq, Nat.lt_irrefl, e1, isIntD, isFrD, evSs_cons]
/-! ### .. in lowest terms, or refused -/
def chkD : D → D
  | .int i => frD (i, 1)
  | .tup [.int a, .int b] => frD (lowI a b)
  | _ => .non
def xFrac (nm : Str) : Exc := ⟨"InvalidFraction", ["name"], [.str nm]⟩
def m_checked (ds : List D) : Option Out := match ds with
  | [d, .str nm] => if frAsk d then some (if isFrD d then .ret (chkD d) [] else .exc (xFrac nm)) else none
  | _ => none
def F_checked : Fn := ⟨[false, false], m_checked⟩
def b_checked : Ss := .cons (.ite (.lnot (.call "is_fraction" F_is_fraction (.cons (.var 0) (.nil)))) (.cons (.raise "InvalidFraction" ["name"] (.cons (.var 1) (.nil))) (.nil)) (.nil)) (.cons (.ite (.pk (.isi (.var 0) "int")) (.cons (.ret (.tup (.cons (.var 0) (.cons (.con (.int 1)) (.nil))))) (.nil)) (.nil)) (.cons (.ret (.call "lowest" F_lowest (.cons (.ix (.var 0) (.con (.int 0))) (.cons (.ix (.var 0) (.con (.int 1))) (.nil))))) (.nil)))
def n_checked : Nat := 2
def b_fraction : Ss := .cons (.ret (.call "checked" F_checked (.cons (.var 0) (.cons (.con (.str "value")) (.nil))))) (.nil)
def n_fraction : Nat := 1
theorem isFrD_inv {d : D} (h : isFrD d = true) : (∃ i, d = .int i) ∨ ∃ a b, d = .tup [.int a, .int b] ∧ 1 ≤ b := by
  unfold isFrD at h
  split at h
  · exact .inl ⟨_, rfl⟩
  · exact .inr ⟨_, _, rfl, by simpa using h⟩
  · cases h
theorem call_fr {d : D} {rs : List D} {A : Arg} (h : res rs A = d) (ha : frAsk d = true) : callD F_is_fraction [A] rs = some (.ok (.bl (isFrD d)) rs) := call_v1 (by
  rw [h]
  show m_is_fraction [d] = _
  simp only [m_is_fraction, ha, if_true]) rfl
theorem call_lowest {a b : Int} {rs : List D} {A B : Arg} (h1 : res rs A = .int a) (h2 : res rs B = .int b) (hb : b ≠ 0) : callD F_lowest [A, B] rs = some (.ok (frD (lowI a b)) rs) := call_v2 (by
  rw [h1, h2]
  show m_low [.int a, .int b] = _
  simp only [m_low, hb, if_false]) rfl
theorem res_loc {rs : List D} {s : Nat} {d : D} (h : rs[s]? = some d) : res rs (.loc s) = fz d := by
  simp only [res, List.getD_eq_getElem?_getD, h, Option.getD_some]
theorem hm_checked : ∀ ds o, m_checked ds = some o → ∃ n, evFn n [false, false] 2 b_checked ds = some o := by
  intro ds o h
  refine ⟨0, ?_⟩
  unfold m_checked at h
  split at h
  case h_2 => cases h
  rename_i d nm
  split at h
  case isFalse => cases h
  rename_i ha
  cases h
  have hz := fz_id d (frAsk_fz ha)
  have e1 := call_fr (rs := [d, .str nm]) (A := .loc 0) (by rw [res_loc rfl, hz]) ha
  have hu : isUn d = false := by cases d <;> first | rfl | (simp [frAsk] at ha)
  unfold evFn b_checked
  by_cases hf : isFrD d = true
  · rw [hf] at e1 ⊢
    rcases isFrD_inv hf with ⟨i, rfl⟩ | ⟨a, b, rfl, hb⟩
    · rw [evSs_cons]; simp -implicitDefEqProofs only [evS, evT, evE, evP, evPs, evV, evA, evAnd, evOr, evI, Pv.a0, Pv.a1, Pv.v0, Pv.v1, opd, slotOf, satOp, Pv.two, Pv.one, ob_s, ob_n, sc_int, sc_bl, sc_str, sc_non, bd_ok, bd_exc, thenE_ok, thenE_exc, thenT_ok, thenT_exc, thenA_ok, thenI_ok, fl_nx, fl_ret, fl_exc, fl_bk, fl_ct, fl_nil, evSs_nil, asBl, asInt, un_non, un_bl, un_int, un_str, un_tup, un_lst, un_obj, un_un, fz, fzs, isSc, isScs, isFz, isFzs, isOwn, isOwns, dNeg, dT, tgA, setAll, okS, res, at2, it_tup, it_lst, chnD, lItems, tmps, cpyLoc, cpyTmp, ixTmp, ioPos, outFl, outsOf, fzs_ints, Pv.sto1, Pv.sto2, ownItems, at2_0, at2_1, at3_0, at3_1, at3_2, at4_0, at4_1, at4_2, at4_3, ix_20, ix_21, ix_40, ix_41, ix_42, ix_43, List.length_map, isFzs, d2_add, d2_sub, d2_lt, d2_le, d2_gt, d2_ge, d2_eq, d2_ne, d2_eqs, d2_eqb, d2_isn_non, d2_isn_int, d2_isn_bl, d2_isn_str, d2_isn_tup, d2_isn_lst, d2_notn_non, d2_notn_int, d2_notn_bl, d2_notn_str, d2_notn_tup, d2_notn_lst, d2_mod, d2_fdiv, Int.reduceToNat, Int.reducePow, Int.reduceEq, Int.reduceLT, Int.reduceLE, Int.reduceNeg, Int.reduceMul, Int.reduceAdd, Int.reduceSub, cst0, cst1, cst2, cst3, cst4, cst5, cst6, cst7, cst8, cst9, cst10, cst11, cst12, ne_eq, not_false_eq_true, not_true_eq_false, dF_gcd, dF_lenL, dF_lenT, dF_int, dF_intb, dF_abs, dF_min, dF_max, dI_ii, dI_ib, dI_is, dI_il, dI_it, dI_bi, dI_bb, dI_bs, dI_bl, dI_bt, dI_si, dI_sb, dI_ss, dI_sl, dI_st, dI_li, dI_lb, dI_ls, dI_ll, dI_lt, dI_ti, dI_tb, dI_ts, dI_tl, dI_tt, dI_ni, dI_nb, dI_ns, dI_nl, dI_nt, Option.map_some, List.length_cons, List.length_nil, List.getElem?_cons_zero, List.getElem?_cons_succ, List.getElem?_nil, List.set_cons_zero, List.set_cons_succ, List.set_nil, List.map_cons, List.map_nil, List.cons_append, List.nil_append, List.append_nil, List.replicate, List.getD_cons_zero, List.getD_cons_succ, List.contains_nil, List.contains_cons, Nat.reduceBEq, Bool.or_false, Bool.false_or, Bool.or_self, Bool.or_true, Bool.true_or, List.isEmpty_nil, List.isEmpty_cons, decide_true, decide_false, if_true, if_false, Bool.false_eq_true, Bool.not_true, Bool.not_false, Bool.and_true, Bool.true_and, Bool.and_self, Bool.and_false, Bool.false_and, reduceIte, Nat.zero_add, Nat.reduceAdd, Nat.reduceSub, Nat.reduceLT, Nat.reduceLeDiff, Nat.reduceEqDiff, decide_eq_true_eq, eq_self, Option.some.injEq, reduceCtorEq, Nat.lt_irrefl, e1]
      simp -implicitDefEqProofs only [evS, evT, evE, evP, evPs, evV, evA, evAnd, evOr, evI, Pv.a0, Pv.a1, Pv.v0, Pv.v1, opd, slotOf, satOp, Pv.two, Pv.one, ob_s, ob_n, sc_int, sc_bl, sc_str, sc_non, bd_ok, bd_exc, thenE_ok, thenE_exc, thenT_ok, thenT_exc, thenA_ok, thenI_ok, fl_nx, fl_ret, fl_exc, fl_bk, fl_ct, fl_nil, evSs_nil, asBl, asInt, un_non, un_bl, un_int, un_str, un_tup, un_lst, un_obj, un_un, fz, fzs, isSc, isScs, isFz, isFzs, isOwn, isOwns, dNeg, dT, tgA, setAll, okS, res, at2, it_tup, it_lst, chnD, lItems, tmps, cpyLoc, cpyTmp, ixTmp, ioPos, outFl, outsOf, fzs_ints, Pv.sto1, Pv.sto2, ownItems, at2_0, at2_1, at3_0, at3_1, at3_2, at4_0, at4_1, at4_2, at4_3, ix_20, ix_21, ix_40, ix_41, ix_42, ix_43, List.length_map, isFzs, d2_add, d2_sub, d2_lt, d2_le, d2_gt, d2_ge, d2_eq, d2_ne, d2_eqs, d2_eqb, d2_isn_non, d2_isn_int, d2_isn_bl, d2_isn_str, d2_isn_tup, d2_isn_lst, d2_notn_non, d2_notn_int, d2_notn_bl, d2_notn_str, d2_notn_tup, d2_notn_lst, d2_mod, d2_fdiv, Int.reduceToNat, Int.reducePow, Int.reduceEq, Int.reduceLT, Int.reduceLE, Int.reduceNeg, Int.reduceMul, Int.reduceAdd, Int.reduceSub, cst0, cst1, cst2, cst3, cst4, cst5, cst6, cst7, cst8, cst9, cst10, cst11, cst12, ne_eq, not_false_eq_true, not_true_eq_false, dF_gcd, dF_lenL, dF_lenT, dF_int, dF_intb, dF_abs, dF_min, dF_max, dI_ii, dI_ib, dI_is, dI_il, dI_it, dI_bi, dI_bb, dI_bs, dI_bl, dI_bt, dI_si, dI_sb, dI_ss, dI_sl, dI_st, dI_li, dI_lb, dI_ls, dI_ll, dI_lt, dI_ti, dI_tb, dI_ts, dI_tl, dI_tt, dI_ni, dI_nb, dI_ns, dI_nl, dI_nt, Option.map_some, List.length_cons, List.length_nil, List.getElem?_cons_zero, List.getElem?_cons_succ, List.getElem?_nil, List.set_cons_zero, List.set_cons_succ, List.set_nil, List.map_cons, List.map_nil, List.cons_append, List.nil_append, List.append_nil, List.replicate, List.getD_cons_zero, List.getD_cons_succ, List.contains_nil, List.contains_cons, Nat.reduceBEq, Bool.or_false, Bool.false_or, Bool.or_self, Bool.or_true, Bool.true_or, List.isEmpty_nil, List.isEmpty_cons, decide_true, decide_false, if_true, if_false, Bool.false_eq_true, Bool.not_true, Bool.not_false, Bool.and_true, Bool.true_and, Bool.and_self, Bool.and_false, Bool.false_and, reduceIte, Nat.zero_add, Nat.reduceAdd, Nat.reduceSub, Nat.reduceLT, Nat.reduceLeDiff, Nat.reduceEqDiff, decide_eq_true_eq, eq_self, Option.some.injEq, reduceCtorEq, Nat.lt_irrefl, evSs_cons, chkD, frD]
    · rw [evSs_cons]; simp -implicitDefEqProofs only [evS, evT, evE, evP, evPs, evV, evA, evAnd, evOr, evI, Pv.a0, Pv.a1, Pv.v0, Pv.v1, opd, slotOf, satOp, Pv.two, Pv.one, ob_s, ob_n, sc_int, sc_bl, sc_str, sc_non, bd_ok, bd_exc, thenE_ok, thenE_exc, thenT_ok, thenT_exc, thenA_ok, thenI_ok, fl_nx, fl_ret, fl_exc, fl_bk, fl_ct, fl_nil, evSs_nil, asBl, asInt, un_non, un_bl, un_int, un_str, un_tup, un_lst, un_obj, un_un, fz, fzs, isSc, isScs, isFz, isFzs, isOwn, isOwns, dNeg, dT, tgA, setAll, okS, res, at2, it_tup, it_lst, chnD, lItems, tmps, cpyLoc, cpyTmp, ixTmp, ioPos, outFl, outsOf, fzs_ints, Pv.sto1, Pv.sto2, ownItems, at2_0, at2_1, at3_0, at3_1, at3_2, at4_0, at4_1, at4_2, at4_3, ix_20, ix_21, ix_40, ix_41, ix_42, ix_43, List.length_map, isFzs, d2_add, d2_sub, d2_lt, d2_le, d2_gt, d2_ge, d2_eq, d2_ne, d2_eqs, d2_eqb, d2_isn_non, d2_isn_int, d2_isn_bl, d2_isn_str, d2_isn_tup, d2_isn_lst, d2_notn_non, d2_notn_int, d2_notn_bl, d2_notn_str, d2_notn_tup, d2_notn_lst, d2_mod, d2_fdiv, Int.reduceToNat, Int.reducePow, Int.reduceEq, Int.reduceLT, Int.reduceLE, Int.reduceNeg, Int.reduceMul, Int.reduceAdd, Int.reduceSub, cst0, cst1, cst2, cst3, cst4, cst5, cst6, cst7, cst8, cst9, cst10, cst11, cst12, ne_eq, not_false_eq_true, not_true_eq_false, dF_gcd, dF_lenL, dF_lenT, dF_int, dF_intb, dF_abs, dF_min, dF_max, dI_ii, dI_ib, dI_is, dI_il, dI_it, dI_bi, dI_bb, dI_bs, dI_bl, dI_bt, dI_si, dI_sb, dI_ss, dI_sl, dI_st, dI_li, dI_lb, dI_ls, dI_ll, dI_lt, dI_ti, dI_tb, dI_ts, dI_tl, dI_tt, dI_ni, dI_nb, dI_ns, dI_nl, dI_nt, Option.map_some, List.length_cons, List.length_nil, List.getElem?_cons_zero, List.getElem?_cons_succ, List.getElem?_nil, List.set_cons_zero, List.set_cons_succ, List.set_nil, List.map_cons, List.map_nil, List.cons_append, List.nil_append, List.append_nil, List.replicate, List.getD_cons_zero, List.getD_cons_succ, List.contains_nil, List.contains_cons, Nat.reduceBEq, Bool.or_false, Bool.false_or, Bool.or_self, Bool.or_true, Bool.true_or, List.isEmpty_nil, List.isEmpty_cons, decide_true, decide_false, if_true, if_false, Bool.false_eq_true, Bool.not_true, Bool.not_false, Bool.and_true, Bool.true_and, Bool.and_self, Bool.and_false, Bool.false_and, reduceIte, Nat.zero_add, Nat.reduceAdd, Nat.reduceSub, Nat.reduceLT, Nat.reduceLeDiff, Nat.reduceEqDiff, decide_eq_true_eq, eq_self, Option.some.injEq, reduceCtorEq, Nat.lt_irrefl, e1]
      rw [evSs_cons]; simp -implicitDefEqProofs only [evS, evT, evE, evP, evPs, evV, evA, evAnd, evOr, evI, Pv.a0, Pv.a1, Pv.v0, Pv.v1, opd, slotOf, satOp, Pv.two, Pv.one, ob_s, ob_n, sc_int, sc_bl, sc_str, sc_non, bd_ok, bd_exc, thenE_ok, thenE_exc, thenT_ok, thenT_exc, thenA_ok, thenI_ok, fl_nx, fl_ret, fl_exc, fl_bk, fl_ct, fl_nil, evSs_nil, asBl, asInt, un_non, un_bl, un_int, un_str, un_tup, un_lst, un_obj, un_un, fz, fzs, isSc, isScs, isFz, isFzs, isOwn, isOwns, dNeg, dT, tgA, setAll, okS, res, at2, it_tup, it_lst, chnD, lItems, tmps, cpyLoc, cpyTmp, ixTmp, ioPos, outFl, outsOf, fzs_ints, Pv.sto1, Pv.sto2, ownItems, at2_0, at2_1, at3_0, at3_1, at3_2, at4_0, at4_1, at4_2, at4_3, ix_20, ix_21, ix_40, ix_41, ix_42, ix_43, List.length_map, isFzs, d2_add, d2_sub, d2_lt, d2_le, d2_gt, d2_ge, d2_eq, d2_ne, d2_eqs, d2_eqb, d2_isn_non, d2_isn_int, d2_isn_bl, d2_isn_str, d2_isn_tup, d2_isn_lst, d2_notn_non, d2_notn_int, d2_notn_bl, d2_notn_str, d2_notn_tup, d2_notn_lst, d2_mod, d2_fdiv, Int.reduceToNat, Int.reducePow, Int.reduceEq, Int.reduceLT, Int.reduceLE, Int.reduceNeg, Int.reduceMul, Int.reduceAdd, Int.reduceSub, cst0, cst1, cst2, cst3, cst4, cst5, cst6, cst7, cst8, cst9, cst10, cst11, cst12, ne_eq, not_false_eq_true, not_true_eq_false, dF_gcd, dF_lenL, dF_lenT, dF_int, dF_intb, dF_abs, dF_min, dF_max, dI_ii, dI_ib, dI_is, dI_il, dI_it, dI_bi, dI_bb, dI_bs, dI_bl, dI_bt, dI_si, dI_sb, dI_ss, dI_sl, dI_st, dI_li, dI_lb, dI_ls, dI_ll, dI_lt, dI_ti, dI_tb, dI_ts, dI_tl, dI_tt, dI_ni, dI_nb, dI_ns, dI_nl, dI_nt, Option.map_some, List.length_cons, List.length_nil, List.getElem?_cons_zero, List.getElem?_cons_succ, List.getElem?_nil, List.set_cons_zero, List.set_cons_succ, List.set_nil, List.map_cons, List.map_nil, List.cons_append, List.nil_append, List.append_nil, List.replicate, List.getD_cons_zero, List.getD_cons_succ, List.contains_nil, List.contains_cons, Nat.reduceBEq, Bool.or_false, Bool.false_or, Bool.or_self, Bool.or_true, Bool.true_or, List.isEmpty_nil, List.isEmpty_cons, decide_true, decide_false, if_true, if_false, Bool.false_eq_true, Bool.not_true, Bool.not_false, Bool.and_true, Bool.true_and, Bool.and_self, Bool.and_false, Bool.false_and, reduceIte, Nat.zero_add, Nat.reduceAdd, Nat.reduceSub, Nat.reduceLT, Nat.reduceLeDiff, Nat.reduceEqDiff, decide_eq_true_eq, eq_self, Option.some.injEq, reduceCtorEq, Nat.lt_irrefl]
      rw [evSs_cons]; simp -implicitDefEqProofs only [evS, evT, evE, evP, evPs, evV, evA, evAnd, evOr, evI, Pv.a0, Pv.a1, Pv.v0, Pv.v1, opd, slotOf, satOp, Pv.two, Pv.one, ob_s, ob_n, sc_int, sc_bl, sc_str, sc_non, bd_ok, bd_exc, thenE_ok, thenE_exc, thenT_ok, thenT_exc, thenA_ok, thenI_ok, fl_nx, fl_ret, fl_exc, fl_bk, fl_ct, fl_nil, evSs_nil, asBl, asInt, un_non, un_bl, un_int, un_str, un_tup, un_lst, un_obj, un_un, fz, fzs, isSc, isScs, isFz, isFzs, isOwn, isOwns, dNeg, dT, tgA, setAll, okS, res, at2, it_tup, it_lst, chnD, lItems, tmps, cpyLoc, cpyTmp, ixTmp, ioPos, outFl, outsOf, fzs_ints, Pv.sto1, Pv.sto2, ownItems, at2_0, at2_1, at3_0, at3_1, at3_2, at4_0, at4_1, at4_2, at4_3, ix_20, ix_21, ix_40, ix_41, ix_42, ix_43, List.length_map, isFzs, d2_add, d2_sub, d2_lt, d2_le, d2_gt, d2_ge, d2_eq, d2_ne, d2_eqs, d2_eqb, d2_isn_non, d2_isn_int, d2_isn_bl, d2_isn_str, d2_isn_tup, d2_isn_lst, d2_notn_non, d2_notn_int, d2_notn_bl, d2_notn_str, d2_notn_tup, d2_notn_lst, d2_mod, d2_fdiv, Int.reduceToNat, Int.reducePow, Int.reduceEq, Int.reduceLT, Int.reduceLE, Int.reduceNeg, Int.reduceMul, Int.reduceAdd, Int.reduceSub, cst0, cst1, cst2, cst3, cst4, cst5, cst6, cst7, cst8, cst9, cst10, cst11, cst12, ne_eq, not_false_eq_true, not_true_eq_false, dF_gcd, dF_lenL, dF_lenT, dF_int, dF_intb, dF_abs, dF_min, dF_max, dI_ii, dI_ib, dI_is, dI_il, dI_it, dI_bi, dI_bb, dI_bs, dI_bl, dI_bt, dI_si, dI_sb, dI_ss, dI_sl, dI_st, dI_li, dI_lb, dI_ls, dI_ll, dI_lt, dI_ti, dI_tb, dI_ts, dI_tl, dI_tt, dI_ni, dI_nb, dI_ns, dI_nl, dI_nt, Option.map_some, List.length_cons, List.length_nil, List.getElem?_cons_zero, List.getElem?_cons_succ, List.getElem?_nil, List.set_cons_zero, List.set_cons_succ, List.set_nil, List.map_cons, List.map_nil, List.cons_append, List.nil_append, List.append_nil, List.replicate, List.getD_cons_zero, List.getD_cons_succ, List.contains_nil, List.contains_cons, Nat.reduceBEq, Bool.or_false, Bool.false_or, Bool.or_self, Bool.or_true, Bool.true_or, List.isEmpty_nil, List.isEmpty_cons, decide_true, decide_false, if_true, if_false, Bool.false_eq_true, Bool.not_true, Bool.not_false, Bool.and_true, Bool.true_and, Bool.and_self, Bool.and_false, Bool.false_and, reduceIte, Nat.zero_add, Nat.reduceAdd, Nat.reduceSub, Nat.reduceLT, Nat.reduceLeDiff, Nat.reduceEqDiff, decide_eq_true_eq, eq_self, Option.some.injEq, reduceCtorEq, Nat.lt_irrefl, ixLoc, call_lowest (A := .tmp (.int a)) (B := .tmp (.int b)) rfl rfl (show b ≠ 0 by omega), chkD, frD]
  · have hf' : isFrD d = false := by simpa using hf
    rw [hf'] at e1 ⊢
    rw [evSs_cons]; simp -implicitDefEqProofs only [evS, evT, evE, evP, evPs, evV, evA, evAnd, evOr, evI, Pv.a0, Pv.a1, Pv.v0, Pv.v1, opd, slotOf, satOp, Pv.two, Pv.one, ob_s, ob_n, sc_int, sc_bl, sc_str, sc_non, bd_ok, bd_exc, thenE_ok, thenE_exc, thenT_ok, thenT_exc, thenA_ok, thenI_ok, fl_nx, fl_ret, fl_exc, fl_bk, fl_ct, fl_nil, evSs_nil, asBl, asInt, un_non, un_bl, un_int, un_str, un_tup, un_lst, un_obj, un_un, fz, fzs, isSc, isScs, isFz, isFzs, isOwn, isOwns, dNeg, dT, tgA, setAll, okS, res, at2, it_tup, it_lst, chnD, lItems, tmps, cpyLoc, cpyTmp, ixTmp, ioPos, outFl, outsOf, fzs_ints, Pv.sto1, Pv.sto2, ownItems, at2_0, at2_1, at3_0, at3_1, at3_2, at4_0, at4_1, at4_2, at4_3, ix_20, ix_21, ix_40, ix_41, ix_42, ix_43, List.length_map, isFzs, d2_add, d2_sub, d2_lt, d2_le, d2_gt, d2_ge, d2_eq, d2_ne, d2_eqs, d2_eqb, d2_isn_non, d2_isn_int, d2_isn_bl, d2_isn_str, d2_isn_tup, d2_isn_lst, d2_notn_non, d2_notn_int, d2_notn_bl, d2_notn_str, d2_notn_tup, d2_notn_lst, d2_mod, d2_fdiv, Int.reduceToNat, Int.reducePow, Int.reduceEq, Int.reduceLT, Int.reduceLE, Int.reduceNeg, Int.reduceMul, Int.reduceAdd, Int.reduceSub, cst0, cst1, cst2, cst3, cst4, cst5, cst6, cst7, cst8, cst9, cst10, cst11, cst12, ne_eq, not_false_eq_true, not_true_eq_false, dF_gcd, dF_lenL, dF_lenT, dF_int, dF_intb, dF_abs, dF_min, dF_max, dI_ii, dI_ib, dI_is, dI_il, dI_it, dI_bi, dI_bb, dI_bs, dI_bl, dI_bt, dI_si, dI_sb, dI_ss, dI_sl, dI_st, dI_li, dI_lb, dI_ls, dI_ll, dI_lt, dI_ti, dI_tb, dI_ts, dI_tl, dI_tt, dI_ni, dI_nb, dI_ns, dI_nl, dI_nt, Option.map_some, List.length_cons, List.length_nil, List.getElem?_cons_zero, List.getElem?_cons_succ, List.getElem?_nil, List.set_cons_zero, List.set_cons_succ, List.set_nil, List.map_cons, List.map_nil, List.cons_append, List.nil_append, List.append_nil, List.replicate, List.getD_cons_zero, List.getD_cons_succ, List.contains_nil, List.contains_cons, Nat.reduceBEq, Bool.or_false, Bool.false_or, Bool.or_self, Bool.or_true, Bool.true_or, List.isEmpty_nil, List.isEmpty_cons, decide_true, decide_false, if_true, if_false, Bool.false_eq_true, Bool.not_true, Bool.not_false, Bool.and_true, Bool.true_and, Bool.and_self, Bool.and_false, Bool.false_and, reduceIte, Nat.zero_add, Nat.reduceAdd, Nat.reduceSub, Nat.reduceLT, Nat.reduceLeDiff, Nat.reduceEqDiff, decide_eq_true_eq, eq_self, Option.some.injEq, reduceCtorEq, Nat.lt_irrefl, e1, hu, evSs_cons, xFrac]
end Pv

set_option maxHeartbeats 4000000
namespace Pv
open PySem
/-! ### drawn numbers -/
def b_L_integer : Ss := .cons (.ite (.op2 .eq (.call "_law_pull" F_L_pull (.cons (.var 0) (.cons (.con (.int 2)) (.nil)))) (.con (.int 0))) (.cons (.ret (.op2 .sub (.call "_law_pull" F_L_pull (.cons (.var 0) (.cons (.con (.int 41)) (.nil)))) (.con (.int 20)))) (.nil)) (.nil)) (.cons (.ret (.op2 .add (.op2 .sub (.call "_law_big" F_L_big (.cons (.var 0) (.cons (.pk (.op2 .sub (.op2 .mul (.con (.int 2)) (.op2 .pow (.con (.int 10)) (.con (.int 40)))) (.con (.int 1)))) (.nil)))) (.pk (.op2 .pow (.con (.int 10)) (.con (.int 40))))) (.con (.int 1)))) (.nil))
def n_L_integer : Nat := 1
def m_integer : List D → Option Out := evFn 0 [true] 1 b_L_integer
def F_L_integer : Fn := ⟨[true], m_integer⟩
def b_L_number : Ss := .cons (.asg (.nm 1) (.call "_law_integer" F_L_integer (.cons (.var 0) (.nil)))) (.cons (.asg (.nm 2) (.op2 .add (.con (.int 1)) (.op2 .fdiv (.fnc .abs (.cons (.call "_law_integer" F_L_integer (.cons (.var 0) (.nil))) (.nil))) (.con (.int 2))))) (.cons (.asg (.nm 3) (.call "_law_pull" F_L_pull (.cons (.var 0) (.cons (.con (.int 16)) (.nil))))) (.cons (.ite (.pk (.op2 .lt (.var 3) (.con (.int 4)))) (.cons (.ret (.lst (.cons (.var 1) (.cons (.tup (.cons (.var 1) (.cons (.con (.int 1)) (.nil)))) (.nil))))) (.nil)) (.nil)) (.cons (.ite (.pk (.op2 .lt (.var 3) (.con (.int 9)))) (.cons (.ret (.lst (.cons (.tup (.cons (.var 1) (.cons (.var 2) (.nil)))) (.cons (.call "_law_low" F_L_low (.cons (.var 1) (.cons (.var 2) (.nil)))) (.nil))))) (.nil)) (.nil)) (.cons (.asg (.nm 4) (.lst (.cons (.con (.bl true)) (.cons (.tup (.cons (.var 1) (.cons (.con (.int 0)) (.nil)))) (.cons (.tup (.cons (.var 1) (.cons (.pk (.op2 .sub (.con (.int 0)) (.var 2))) (.nil)))) (.cons (.lst (.cons (.var 1) (.cons (.var 2) (.nil)))) (.cons (.tup (.cons (.var 1) (.cons (.var 2) (.cons (.con (.int 1)) (.nil))))) (.cons (.tup (.cons (.con (.bl true)) (.cons (.var 2) (.nil)))) (.cons (.con (.non)) (.nil)))))))))) (.cons (.ret (.lst (.cons (.ix (.var 4) (.pk (.op2 .sub (.var 3) (.con (.int 9))))) (.cons (.con (.non)) (.nil))))) (.nil)))))))
def n_L_number : Nat := 5
def m_number : List D → Option Out := evFn 0 [true] 5 b_L_number
def F_L_number : Fn := ⟨[true], m_number⟩
theorem p40 : (10 : Int) ^ 40 = 10000000000000000000000000000000000000000 := by decide
theorem integer_ok {d : D} (h : StOk d) : ∃ i d', StOk d' ∧ i.natAbs < 2 ^ 134 ∧ m_integer [d] = some (.ret (.int i) [d']) := by
  unfold m_integer evFn b_L_integer
  have pw : powOk 10 40 = true := by decide
  obtain ⟨v, st1, h1, v0, v1, e1⟩ := call_pull (rs := [d]) (s := 0) h (show (0 : Int) < 2 by decide) rfl
  have mm : mulOk 2 10000000000000000000000000000000000000000 = true := by decide
  by_cases c : v = 0
  · obtain ⟨w, st2, h2, w0, w1, e2⟩ := call_pull (rs := [st1]) (s := 0) h1 (show (0 : Int) < 41 by decide) rfl
    refine ⟨w - 20, st2, h2, by omega, ?_⟩
    rw [evSs_cons]; simp -implicitDefEqProofs only [evS, evT, evE, evP, evPs, evV, evA, evAnd, evOr, evI, Pv.a0, Pv.a1, Pv.v0, Pv.v1, opd, slotOf, satOp, Pv.two, Pv.one, ob_s, ob_n, sc_int, sc_bl, sc_str, sc_non, bd_ok, bd_exc, thenE_ok, thenE_exc, thenT_ok, thenT_exc, thenA_ok, thenI_ok, fl_nx, fl_ret, fl_exc, fl_bk, fl_ct, fl_nil, evSs_nil, asBl, asInt, un_non, un_bl, un_int, un_str, un_tup, un_lst, un_obj, un_un, fz, fzs, isSc, isScs, isFz, isFzs, isOwn, isOwns, dNeg, dT, tgA, setAll, okS, res, at2, it_tup, it_lst, chnD, lItems, tmps, cpyLoc, cpyTmp, ixTmp, ioPos, outFl, outsOf, fzs_ints, Pv.sto1, Pv.sto2, ownItems, at2_0, at2_1, at3_0, at3_1, at3_2, at4_0, at4_1, at4_2, at4_3, ix_20, ix_21, ix_40, ix_41, ix_42, ix_43, List.length_map, isFzs, d2_add, d2_sub, d2_lt, d2_le, d2_gt, d2_ge, d2_eq, d2_ne, d2_eqs, d2_eqb, d2_isn_non, d2_isn_int, d2_isn_bl, d2_isn_str, d2_isn_tup, d2_isn_lst, d2_notn_non, d2_notn_int, d2_notn_bl, d2_notn_str, d2_notn_tup, d2_notn_lst, d2_mod, d2_fdiv, Int.reduceToNat, Int.reducePow, Int.reduceEq, Int.reduceLT, Int.reduceLE, Int.reduceNeg, Int.reduceMul, Int.reduceAdd, Int.reduceSub, cst0, cst1, cst2, cst3, cst4, cst5, cst6, cst7, cst8, cst9, cst10, cst11, cst12, ne_eq, not_false_eq_true, not_true_eq_false, dF_gcd, dF_lenL, dF_lenT, dF_int, dF_intb, dF_abs, dF_min, dF_max, dI_ii, dI_ib, dI_is, dI_il, dI_it, dI_bi, dI_bb, dI_bs, dI_bl, dI_bt, dI_si, dI_sb, dI_ss, dI_sl, dI_st, dI_li, dI_lb, dI_ls, dI_ll, dI_lt, dI_ti, dI_tb, dI_ts, dI_tl, dI_tt, dI_ni, dI_nb, dI_ns, dI_nl, dI_nt, Option.map_some, List.length_cons, List.length_nil, List.getElem?_cons_zero, List.getElem?_cons_succ, List.getElem?_nil, List.set_cons_zero, List.set_cons_succ, List.set_nil, List.map_cons, List.map_nil, List.cons_append, List.nil_append, List.append_nil, List.replicate, List.getD_cons_zero, List.getD_cons_succ, List.contains_nil, List.contains_cons, Nat.reduceBEq, Bool.or_false, Bool.false_or, Bool.or_self, Bool.or_true, Bool.true_or, List.isEmpty_nil, List.isEmpty_cons, decide_true, decide_false, if_true, if_false, Bool.false_eq_true, Bool.not_true, Bool.not_false, Bool.and_true, Bool.true_and, Bool.and_self, Bool.and_false, Bool.false_and, reduceIte, Nat.zero_add, Nat.reduceAdd, Nat.reduceSub, Nat.reduceLT, Nat.reduceLeDiff, Nat.reduceEqDiff, decide_eq_true_eq, eq_self, Option.some.injEq, reduceCtorEq, Nat.lt_irrefl, h.un, e1, c, h1.un, e2, evSs_cons]
  · obtain ⟨w, st2, h2, w0, w1, e2⟩ := call_big (rs := [st1]) (s := 0) (many := 19999999999999999999999999999999999999999) h1 (by decide) rfl
    refine ⟨w - 10000000000000000000000000000000000000000 + 1, st2, h2, by omega, ?_⟩
    rw [evSs_cons]; simp -implicitDefEqProofs only [evS, evT, evE, evP, evPs, evV, evA, evAnd, evOr, evI, Pv.a0, Pv.a1, Pv.v0, Pv.v1, opd, slotOf, satOp, Pv.two, Pv.one, ob_s, ob_n, sc_int, sc_bl, sc_str, sc_non, bd_ok, bd_exc, thenE_ok, thenE_exc, thenT_ok, thenT_exc, thenA_ok, thenI_ok, fl_nx, fl_ret, fl_exc, fl_bk, fl_ct, fl_nil, evSs_nil, asBl, asInt, un_non, un_bl, un_int, un_str, un_tup, un_lst, un_obj, un_un, fz, fzs, isSc, isScs, isFz, isFzs, isOwn, isOwns, dNeg, dT, tgA, setAll, okS, res, at2, it_tup, it_lst, chnD, lItems, tmps, cpyLoc, cpyTmp, ixTmp, ioPos, outFl, outsOf, fzs_ints, Pv.sto1, Pv.sto2, ownItems, at2_0, at2_1, at3_0, at3_1, at3_2, at4_0, at4_1, at4_2, at4_3, ix_20, ix_21, ix_40, ix_41, ix_42, ix_43, List.length_map, isFzs, d2_add, d2_sub, d2_lt, d2_le, d2_gt, d2_ge, d2_eq, d2_ne, d2_eqs, d2_eqb, d2_isn_non, d2_isn_int, d2_isn_bl, d2_isn_str, d2_isn_tup, d2_isn_lst, d2_notn_non, d2_notn_int, d2_notn_bl, d2_notn_str, d2_notn_tup, d2_notn_lst, d2_mod, d2_fdiv, Int.reduceToNat, Int.reducePow, Int.reduceEq, Int.reduceLT, Int.reduceLE, Int.reduceNeg, Int.reduceMul, Int.reduceAdd, Int.reduceSub, cst0, cst1, cst2, cst3, cst4, cst5, cst6, cst7, cst8, cst9, cst10, cst11, cst12, ne_eq, not_false_eq_true, not_true_eq_false, dF_gcd, dF_lenL, dF_lenT, dF_int, dF_intb, dF_abs, dF_min, dF_max, dI_ii, dI_ib, dI_is, dI_il, dI_it, dI_bi, dI_bb, dI_bs, dI_bl, dI_bt, dI_si, dI_sb, dI_ss, dI_sl, dI_st, dI_li, dI_lb, dI_ls, dI_ll, dI_lt, dI_ti, dI_tb, dI_ts, dI_tl, dI_tt, dI_ni, dI_nb, dI_ns, dI_nl, dI_nt, Option.map_some, List.length_cons, List.length_nil, List.getElem?_cons_zero, List.getElem?_cons_succ, List.getElem?_nil, List.set_cons_zero, List.set_cons_succ, List.set_nil, List.map_cons, List.map_nil, List.cons_append, List.nil_append, List.append_nil, List.replicate, List.getD_cons_zero, List.getD_cons_succ, List.contains_nil, List.contains_cons, Nat.reduceBEq, Bool.or_false, Bool.false_or, Bool.or_self, Bool.or_true, Bool.true_or, List.isEmpty_nil, List.isEmpty_cons, decide_true, decide_false, if_true, if_false, Bool.false_eq_true, Bool.not_true, Bool.not_false, Bool.and_true, Bool.true_and, Bool.and_self, Bool.and_false, Bool.false_and, reduceIte, Nat.zero_add, Nat.reduceAdd, Nat.reduceSub, Nat.reduceLT, Nat.reduceLeDiff, Nat.reduceEqDiff, decide_eq_true_eq, eq_self, Option.some.injEq, reduceCtorEq, Nat.lt_irrefl, h.un, e1, c, h1.un, e2, evSs_cons, d2_pow pw, d2_mul mm]
theorem call_integer {d : D} {s : Nat} {rs : List D} (h : StOk d) (e : rs[s]? = some d) : ∃ i d', StOk d' ∧ i.natAbs < 2 ^ 134 ∧ callD F_L_integer [.loc s] rs = some (.ok (.int i) (rs.set s d')) := by
  obtain ⟨i, d', h1, h2, h3⟩ := integer_ok h
  exact ⟨i, d', h1, h2, call_io1' e h3⟩
theorem call_L_low {a b : Int} {rs : List D} {A B : Arg} (h1 : res rs A = .int a) (h2 : res rs B = .int b) (hb : b ≠ 0) : callD F_L_low [A, B] rs = some (.ok (frD (lowI a b)) rs) := call_v2 (by
  rw [h1, h2]
  show m_low [.int a, .int b] = _
  simp only [m_low, hb, if_false]) rfl
/-- a drawn number: what is passed, what is due -/
def NumP (v w : D) : Prop := (isUn v = false ∧ isUn w = false) ∧ (frAsk (fz v) = true ∧ ((w = .non ∧ isFrD (fz v) = false) ∨ (isFrD (fz v) = true ∧ w = chkD (fz v) ∧ ∃ a b, w = frD (lowI a b) ∧ 1 ≤ b ∧ a.natAbs < 2 ^ 134 ∧ b.natAbs < 2 ^ 134)))
theorem low_one (i : Int) : lowI i 1 = (i, 1) := by
  unfold lowI
  rw [if_neg (by decide)]
  simp
theorem number_ok {d : D} (h : StOk d) : ∃ v w d', StOk d' ∧ NumP v w ∧ m_number [d] = some (.ret (.lst true [v, w]) [d']) := by
  unfold m_number evFn b_L_number
  obtain ⟨a, st1, h1, a1, e1⟩ := call_integer (rs := [d, .un, .un, .un, .un]) (s := 0) h rfl
  obtain ⟨b, st2, h2, b1, e2⟩ := call_integer (rs := [st1, .int a, .un, .un, .un]) (s := 0) h1 rfl
  have ab : (if b < 0 then -b else b) = (b.natAbs : Int) := by split <;> omega
  have hq : (b.natAbs : Int).fdiv 2 = (b.natAbs : Int) / 2 := Int.fdiv_eq_ediv_of_nonneg _ (by decide)
  have hb : ∃ c : Int, c = 1 + (b.natAbs : Int) / 2 ∧ 1 ≤ c ∧ c.natAbs < 2 ^ 134 := ⟨_, rfl, by omega, by omega⟩
  obtain ⟨c, ec, c1, c2⟩ := hb
  obtain ⟨t, st3, h3, t0, t1, e3⟩ := call_pull (rs := [st2, .int a, .int c, .un, .un]) (s := 0) h2 (show (0 : Int) < 16 by decide) rfl
  have c0 : c ≠ 0 := by omega
  have d2c : d2 .fdiv (.int (b.natAbs : Int)) (.int 2) = some (.int ((b.natAbs : Int) / 2)) := by rw [d2_fdiv (by decide), hq]
  by_cases k1 : t < 4
  · refine ⟨.int a, frD (lowI a 1), st3, h3, ⟨⟨rfl, rfl⟩, rfl, .inr ⟨rfl, by rw [low_one]; rfl, a, 1, rfl, by decide, a1, by decide⟩⟩, ?_⟩
    rw [evSs_cons]; simp -implicitDefEqProofs only [evS, evT, evE, evP, evPs, evV, evA, evAnd, evOr, evI, Pv.a0, Pv.a1, Pv.v0, Pv.v1, opd, slotOf, satOp, Pv.two, Pv.one, ob_s, ob_n, sc_int, sc_bl, sc_str, sc_non, bd_ok, bd_exc, thenE_ok, thenE_exc, thenT_ok, thenT_exc, thenA_ok, thenI_ok, fl_nx, fl_ret, fl_exc, fl_bk, fl_ct, fl_nil, evSs_nil, asBl, asInt, un_non, un_bl, un_int, un_str, un_tup, un_lst, un_obj, un_un, fz, fzs, isSc, isScs, isFz, isFzs, isOwn, isOwns, dNeg, dT, tgA, setAll, okS, res, at2, it_tup, it_lst, chnD, lItems, tmps, cpyLoc, cpyTmp, ixTmp, ioPos, outFl, outsOf, fzs_ints, Pv.sto1, Pv.sto2, ownItems, at2_0, at2_1, at3_0, at3_1, at3_2, at4_0, at4_1, at4_2, at4_3, ix_20, ix_21, ix_40, ix_41, ix_42, ix_43, List.length_map, isFzs, d2_add, d2_sub, d2_lt, d2_le, d2_gt, d2_ge, d2_eq, d2_ne, d2_eqs, d2_eqb, d2_isn_non, d2_isn_int, d2_isn_bl, d2_isn_str, d2_isn_tup, d2_isn_lst, d2_notn_non, d2_notn_int, d2_notn_bl, d2_notn_str, d2_notn_tup, d2_notn_lst, d2_mod, d2_fdiv, Int.reduceToNat, Int.reducePow, Int.reduceEq, Int.reduceLT, Int.reduceLE, Int.reduceNeg, Int.reduceMul, Int.reduceAdd, Int.reduceSub, cst0, cst1, cst2, cst3, cst4, cst5, cst6, cst7, cst8, cst9, cst10, cst11, cst12, ne_eq, not_false_eq_true, not_true_eq_false, dF_gcd, dF_lenL, dF_lenT, dF_int, dF_intb, dF_abs, dF_min, dF_max, dI_ii, dI_ib, dI_is, dI_il, dI_it, dI_bi, dI_bb, dI_bs, dI_bl, dI_bt, dI_si, dI_sb, dI_ss, dI_sl, dI_st, dI_li, dI_lb, dI_ls, dI_ll, dI_lt, dI_ti, dI_tb, dI_ts, dI_tl, dI_tt, dI_ni, dI_nb, dI_ns, dI_nl, dI_nt, Option.map_some, List.length_cons, List.length_nil, List.getElem?_cons_zero, List.getElem?_cons_succ, List.getElem?_nil, List.set_cons_zero, List.set_cons_succ, List.set_nil, List.map_cons, List.map_nil, List.cons_append, List.nil_append, List.append_nil, List.replicate, List.getD_cons_zero, List.getD_cons_succ, List.contains_nil, List.contains_cons, Nat.reduceBEq, Bool.or_false, Bool.false_or, Bool.or_self, Bool.or_true, Bool.true_or, List.isEmpty_nil, List.isEmpty_cons, decide_true, decide_false, if_true, if_false, Bool.false_eq_true, Bool.not_true, Bool.not_false, Bool.and_true, Bool.true_and, Bool.and_self, Bool.and_false, Bool.false_and, reduceIte, Nat.zero_add, Nat.reduceAdd, Nat.reduceSub, Nat.reduceLT, Nat.reduceLeDiff, Nat.reduceEqDiff, decide_eq_true_eq, eq_self, Option.some.injEq, reduceCtorEq, Nat.lt_irrefl, h.un, e1]
    rw [evSs_cons]; simp -implicitDefEqProofs only [evS, evT, evE, evP, evPs, evV, evA, evAnd, evOr, evI, Pv.a0, Pv.a1, Pv.v0, Pv.v1, opd, slotOf, satOp, Pv.two, Pv.one, ob_s, ob_n, sc_int, sc_bl, sc_str, sc_non, bd_ok, bd_exc, thenE_ok, thenE_exc, thenT_ok, thenT_exc, thenA_ok, thenI_ok, fl_nx, fl_ret, fl_exc, fl_bk, fl_ct, fl_nil, evSs_nil, asBl, asInt, un_non, un_bl, un_int, un_str, un_tup, un_lst, un_obj, un_un, fz, fzs, isSc, isScs, isFz, isFzs, isOwn, isOwns, dNeg, dT, tgA, setAll, okS, res, at2, it_tup, it_lst, chnD, lItems, tmps, cpyLoc, cpyTmp, ixTmp, ioPos, outFl, outsOf, fzs_ints, Pv.sto1, Pv.sto2, ownItems, at2_0, at2_1, at3_0, at3_1, at3_2, at4_0, at4_1, at4_2, at4_3, ix_20, ix_21, ix_40, ix_41, ix_42, ix_43, List.length_map, isFzs, d2_add, d2_sub, d2_lt, d2_le, d2_gt, d2_ge, d2_eq, d2_ne, d2_eqs, d2_eqb, d2_isn_non, d2_isn_int, d2_isn_bl, d2_isn_str, d2_isn_tup, d2_isn_lst, d2_notn_non, d2_notn_int, d2_notn_bl, d2_notn_str, d2_notn_tup, d2_notn_lst, d2_mod, d2_fdiv, Int.reduceToNat, Int.reducePow, Int.reduceEq, Int.reduceLT, Int.reduceLE, Int.reduceNeg, Int.reduceMul, Int.reduceAdd, Int.reduceSub, cst0, cst1, cst2, cst3, cst4, cst5, cst6, cst7, cst8, cst9, cst10, cst11, cst12, ne_eq, not_false_eq_true, not_true_eq_false, dF_gcd, dF_lenL, dF_lenT, dF_int, dF_intb, dF_abs, dF_min, dF_max, dI_ii, dI_ib, dI_is, dI_il, dI_it, dI_bi, dI_bb, dI_bs, dI_bl, dI_bt, dI_si, dI_sb, dI_ss, dI_sl, dI_st, dI_li, dI_lb, dI_ls, dI_ll, dI_lt, dI_ti, dI_tb, dI_ts, dI_tl, dI_tt, dI_ni, dI_nb, dI_ns, dI_nl, dI_nt, Option.map_some, List.length_cons, List.length_nil, List.getElem?_cons_zero, List.getElem?_cons_succ, List.getElem?_nil, List.set_cons_zero, List.set_cons_succ, List.set_nil, List.map_cons, List.map_nil, List.cons_append, List.nil_append, List.append_nil, List.replicate, List.getD_cons_zero, List.getD_cons_succ, List.contains_nil, List.contains_cons, Nat.reduceBEq, Bool.or_false, Bool.false_or, Bool.or_self, Bool.or_true, Bool.true_or, List.isEmpty_nil, List.isEmpty_cons, decide_true, decide_false, if_true, if_false, Bool.false_eq_true, Bool.not_true, Bool.not_false, Bool.and_true, Bool.true_and, Bool.and_self, Bool.and_false, Bool.false_and, reduceIte, Nat.zero_add, Nat.reduceAdd, Nat.reduceSub, Nat.reduceLT, Nat.reduceLeDiff, Nat.reduceEqDiff, decide_eq_true_eq, eq_self, Option.some.injEq, reduceCtorEq, Nat.lt_irrefl, h1.un, e2, ab, d2c, ← ec]
    rw [evSs_cons]; simp -implicitDefEqProofs only [evS, evT, evE, evP, evPs, evV, evA, evAnd, evOr, evI, Pv.a0, Pv.a1, Pv.v0, Pv.v1, opd, slotOf, satOp, Pv.two, Pv.one, ob_s, ob_n, sc_int, sc_bl, sc_str, sc_non, bd_ok, bd_exc, thenE_ok, thenE_exc, thenT_ok, thenT_exc, thenA_ok, thenI_ok, fl_nx, fl_ret, fl_exc, fl_bk, fl_ct, fl_nil, evSs_nil, asBl, asInt, un_non, un_bl, un_int, un_str, un_tup, un_lst, un_obj, un_un, fz, fzs, isSc, isScs, isFz, isFzs, isOwn, isOwns, dNeg, dT, tgA, setAll, okS, res, at2, it_tup, it_lst, chnD, lItems, tmps, cpyLoc, cpyTmp, ixTmp, ioPos, outFl, outsOf, fzs_ints, Pv.sto1, Pv.sto2, ownItems, at2_0, at2_1, at3_0, at3_1, at3_2, at4_0, at4_1, at4_2, at4_3, ix_20, ix_21, ix_40, ix_41, ix_42, ix_43, List.length_map, isFzs, d2_add, d2_sub, d2_lt, d2_le, d2_gt, d2_ge, d2_eq, d2_ne, d2_eqs, d2_eqb, d2_isn_non, d2_isn_int, d2_isn_bl, d2_isn_str, d2_isn_tup, d2_isn_lst, d2_notn_non, d2_notn_int, d2_notn_bl, d2_notn_str, d2_notn_tup, d2_notn_lst, d2_mod, d2_fdiv, Int.reduceToNat, Int.reducePow, Int.reduceEq, Int.reduceLT, Int.reduceLE, Int.reduceNeg, Int.reduceMul, Int.reduceAdd, Int.reduceSub, cst0, cst1, cst2, cst3, cst4, cst5, cst6, cst7, cst8, cst9, cst10, cst11, cst12, ne_eq, not_false_eq_true, not_true_eq_false, dF_gcd, dF_lenL, dF_lenT, dF_int, dF_intb, dF_abs, dF_min, dF_max, dI_ii, dI_ib, dI_is, dI_il, dI_it, dI_bi, dI_bb, dI_bs, dI_bl, dI_bt, dI_si, dI_sb, dI_ss, dI_sl, dI_st, dI_li, dI_lb, dI_ls, dI_ll, dI_lt, dI_ti, dI_tb, dI_ts, dI_tl, dI_tt, dI_ni, dI_nb, dI_ns, dI_nl, dI_nt, Option.map_some, List.length_cons, List.length_nil, List.getElem?_cons_zero, List.getElem?_cons_succ, List.getElem?_nil, List.set_cons_zero, List.set_cons_succ, List.set_nil, List.map_cons, List.map_nil, List.cons_append, List.nil_append, List.append_nil, List.replicate, List.getD_cons_zero, List.getD_cons_succ, List.contains_nil, List.contains_cons, Nat.reduceBEq, Bool.or_false, Bool.false_or, Bool.or_self, Bool.or_true, Bool.true_or, List.isEmpty_nil, List.isEmpty_cons, decide_true, decide_false, if_true, if_false, Bool.false_eq_true, Bool.not_true, Bool.not_false, Bool.and_true, Bool.true_and, Bool.and_self, Bool.and_false, Bool.false_and, reduceIte, Nat.zero_add, Nat.reduceAdd, Nat.reduceSub, Nat.reduceLT, Nat.reduceLeDiff, Nat.reduceEqDiff, decide_eq_true_eq, eq_self, Option.some.injEq, reduceCtorEq, Nat.lt_irrefl, h2.un, e3]
    rw [evSs_cons]; simp -implicitDefEqProofs only [evS, evT, evE, evP, evPs, evV, evA, evAnd, evOr, evI, Pv.a0, Pv.a1, Pv.v0, Pv.v1, opd, slotOf, satOp, Pv.two, Pv.one, ob_s, ob_n, sc_int, sc_bl, sc_str, sc_non, bd_ok, bd_exc, thenE_ok, thenE_exc, thenT_ok, thenT_exc, thenA_ok, thenI_ok, fl_nx, fl_ret, fl_exc, fl_bk, fl_ct, fl_nil, evSs_nil, asBl, asInt, un_non, un_bl, un_int, un_str, un_tup, un_lst, un_obj, un_un, fz, fzs, isSc, isScs, isFz, isFzs, isOwn, isOwns, dNeg, dT, tgA, setAll, okS, res, at2, it_tup, it_lst, chnD, lItems, tmps, cpyLoc, cpyTmp, ixTmp, ioPos, outFl, outsOf, fzs_ints, Pv.sto1, Pv.sto2, ownItems, at2_0, at2_1, at3_0, at3_1, at3_2, at4_0, at4_1, at4_2, at4_3, ix_20, ix_21, ix_40, ix_41, ix_42, ix_43, List.length_map, isFzs, d2_add, d2_sub, d2_lt, d2_le, d2_gt, d2_ge, d2_eq, d2_ne, d2_eqs, d2_eqb, d2_isn_non, d2_isn_int, d2_isn_bl, d2_isn_str, d2_isn_tup, d2_isn_lst, d2_notn_non, d2_notn_int, d2_notn_bl, d2_notn_str, d2_notn_tup, d2_notn_lst, d2_mod, d2_fdiv, Int.reduceToNat, Int.reducePow, Int.reduceEq, Int.reduceLT, Int.reduceLE, Int.reduceNeg, Int.reduceMul, Int.reduceAdd, Int.reduceSub, cst0, cst1, cst2, cst3, cst4, cst5, cst6, cst7, cst8, cst9, cst10, cst11, cst12, ne_eq, not_false_eq_true, not_true_eq_false, dF_gcd, dF_lenL, dF_lenT, dF_int, dF_intb, dF_abs, dF_min, dF_max, dI_ii, dI_ib, dI_is, dI_il, dI_it, dI_bi, dI_bb, dI_bs, dI_bl, dI_bt, dI_si, dI_sb, dI_ss, dI_sl, dI_st, dI_li, dI_lb, dI_ls, dI_ll, dI_lt, dI_ti, dI_tb, dI_ts, dI_tl, dI_tt, dI_ni, dI_nb, dI_ns, dI_nl, dI_nt, Option.map_some, List.length_cons, List.length_nil, List.getElem?_cons_zero, List.getElem?_cons_succ, List.getElem?_nil, List.set_cons_zero, List.set_cons_succ, List.set_nil, List.map_cons, List.map_nil, List.cons_append, List.nil_append, List.append_nil, List.replicate, List.getD_cons_zero, List.getD_cons_succ, List.contains_nil, List.contains_cons, Nat.reduceBEq, Bool.or_false, Bool.false_or, Bool.or_self, Bool.or_true, Bool.true_or, List.isEmpty_nil, List.isEmpty_cons, decide_true, decide_false, if_true, if_false, Bool.false_eq_true, Bool.not_true, Bool.not_false, Bool.and_true, Bool.true_and, Bool.and_self, Bool.and_false, Bool.false_and, reduceIte, Nat.zero_add, Nat.reduceAdd, Nat.reduceSub, Nat.reduceLT, Nat.reduceLeDiff, Nat.reduceEqDiff, decide_eq_true_eq, eq_self, Option.some.injEq, reduceCtorEq, Nat.lt_irrefl, k1, evSs_cons, frD, low_one]
  by_cases k2 : t < 9
  · have el := call_L_low (rs := [st3, .int a, .int c, .int t, .un]) (A := .loc 1) (B := .loc 2) (a := a) (b := c) rfl rfl c0
    refine ⟨.tup [.int a, .int c], frD (lowI a c), st3, h3, ⟨⟨rfl, rfl⟩, ?_, .inr ⟨?_, rfl, a, c, rfl, c1, a1, c2⟩⟩, ?_⟩
    · rfl
    · simp [fz, fzs, isFrD, c1]
    rw [evSs_cons]; simp -implicitDefEqProofs only [evS, evT, evE, evP, evPs, evV, evA, evAnd, evOr, evI, Pv.a0, Pv.a1, Pv.v0, Pv.v1, opd, slotOf, satOp, Pv.two, Pv.one, ob_s, ob_n, sc_int, sc_bl, sc_str, sc_non, bd_ok, bd_exc, thenE_ok, thenE_exc, thenT_ok, thenT_exc, thenA_ok, thenI_ok, fl_nx, fl_ret, fl_exc, fl_bk, fl_ct, fl_nil, evSs_nil, asBl, asInt, un_non, un_bl, un_int, un_str, un_tup, un_lst, un_obj, un_un, fz, fzs, isSc, isScs, isFz, isFzs, isOwn, isOwns, dNeg, dT, tgA, setAll, okS, res, at2, it_tup, it_lst, chnD, lItems, tmps, cpyLoc, cpyTmp, ixTmp, ioPos, outFl, outsOf, fzs_ints, Pv.sto1, Pv.sto2, ownItems, at2_0, at2_1, at3_0, at3_1, at3_2, at4_0, at4_1, at4_2, at4_3, ix_20, ix_21, ix_40, ix_41, ix_42, ix_43, List.length_map, isFzs, d2_add, d2_sub, d2_lt, d2_le, d2_gt, d2_ge, d2_eq, d2_ne, d2_eqs, d2_eqb, d2_isn_non, d2_isn_int, d2_isn_bl, d2_isn_str, d2_isn_tup, d2_isn_lst, d2_notn_non, d2_notn_int, d2_notn_bl, d2_notn_str, d2_notn_tup, d2_notn_lst, d2_mod, d2_fdiv, Int.reduceToNat, Int.reducePow, Int.reduceEq, Int.reduceLT, Int.reduceLE, Int.reduceNeg, Int.reduceMul, Int.reduceAdd, Int.reduceSub, cst0, cst1, cst2, cst3, cst4, cst5, cst6, cst7, cst8, cst9, cst10, cst11, cst12, ne_eq, not_false_eq_true, not_true_eq_false, dF_gcd, dF_lenL, dF_lenT, dF_int, dF_intb, dF_abs, dF_min, dF_max, dI_ii, dI_ib, dI_is, dI_il, dI_it, dI_bi, dI_bb, dI_bs, dI_bl, dI_bt, dI_si, dI_sb, dI_ss, dI_sl, dI_st, dI_li, dI_lb, dI_ls, dI_ll, dI_lt, dI_ti, dI_tb, dI_ts, dI_tl, dI_tt, dI_ni, dI_nb, dI_ns, dI_nl, dI_nt, Option.map_some, List.length_cons, List.length_nil, List.getElem?_cons_zero, List.getElem?_cons_succ, List.getElem?_nil, List.set_cons_zero, List.set_cons_succ, List.set_nil, List.map_cons, List.map_nil, List.cons_append, List.nil_append, List.append_nil, List.replicate, List.getD_cons_zero, List.getD_cons_succ, List.contains_nil, List.contains_cons, Nat.reduceBEq, Bool.or_false, Bool.false_or, Bool.or_self, Bool.or_true, Bool.true_or, List.isEmpty_nil, List.isEmpty_cons, decide_true, decide_false, if_true, if_false, Bool.false_eq_true, Bool.not_true, Bool.not_false, Bool.and_true, Bool.true_and, Bool.and_self, Bool.and_false, Bool.false_and, reduceIte, Nat.zero_add, Nat.reduceAdd, Nat.reduceSub, Nat.reduceLT, Nat.reduceLeDiff, Nat.reduceEqDiff, decide_eq_true_eq, eq_self, Option.some.injEq, reduceCtorEq, Nat.lt_irrefl, h.un, e1]
    rw [evSs_cons]; simp -implicitDefEqProofs only [evS, evT, evE, evP, evPs, evV, evA, evAnd, evOr, evI, Pv.a0, Pv.a1, Pv.v0, Pv.v1, opd, slotOf, satOp, Pv.two, Pv.one, ob_s, ob_n, sc_int, sc_bl, sc_str, sc_non, bd_ok, bd_exc, thenE_ok, thenE_exc, thenT_ok, thenT_exc, thenA_ok, thenI_ok, fl_nx, fl_ret, fl_exc, fl_bk, fl_ct, fl_nil, evSs_nil, asBl, asInt, un_non, un_bl, un_int, un_str, un_tup, un_lst, un_obj, un_un, fz, fzs, isSc, isScs, isFz, isFzs, isOwn, isOwns, dNeg, dT, tgA, setAll, okS, res, at2, it_tup, it_lst, chnD, lItems, tmps, cpyLoc, cpyTmp, ixTmp, ioPos, outFl, outsOf, fzs_ints, Pv.sto1, Pv.sto2, ownItems, at2_0, at2_1, at3_0, at3_1, at3_2, at4_0, at4_1, at4_2, at4_3, ix_20, ix_21, ix_40, ix_41, ix_42, ix_43, List.length_map, isFzs, d2_add, d2_sub, d2_lt, d2_le, d2_gt, d2_ge, d2_eq, d2_ne, d2_eqs, d2_eqb, d2_isn_non, d2_isn_int, d2_isn_bl, d2_isn_str, d2_isn_tup, d2_isn_lst, d2_notn_non, d2_notn_int, d2_notn_bl, d2_notn_str, d2_notn_tup, d2_notn_lst, d2_mod, d2_fdiv, Int.reduceToNat, Int.reducePow, Int.reduceEq, Int.reduceLT, Int.reduceLE, Int.reduceNeg, Int.reduceMul, Int.reduceAdd, Int.reduceSub, cst0, cst1, cst2, cst3, cst4, cst5, cst6, cst7, cst8, cst9, cst10, cst11, cst12, ne_eq, not_false_eq_true, not_true_eq_false, dF_gcd, dF_lenL, dF_lenT, dF_int, dF_intb, dF_abs, dF_min, dF_max, dI_ii, dI_ib, dI_is, dI_il, dI_it, dI_bi, dI_bb, dI_bs, dI_bl, dI_bt, dI_si, dI_sb, dI_ss, dI_sl, dI_st, dI_li, dI_lb, dI_ls, dI_ll, dI_lt, dI_ti, dI_tb, dI_ts, dI_tl, dI_tt, dI_ni, dI_nb, dI_ns, dI_nl, dI_nt, Option.map_some, List.length_cons, List.length_nil, List.getElem?_cons_zero, List.getElem?_cons_succ, List.getElem?_nil, List.set_cons_zero, List.set_cons_succ, List.set_nil, List.map_cons, List.map_nil, List.cons_append, List.nil_append, List.append_nil, List.replicate, List.getD_cons_zero, List.getD_cons_succ, List.contains_nil, List.contains_cons, Nat.reduceBEq, Bool.or_false, Bool.false_or, Bool.or_self, Bool.or_true, Bool.true_or, List.isEmpty_nil, List.isEmpty_cons, decide_true, decide_false, if_true, if_false, Bool.false_eq_true, Bool.not_true, Bool.not_false, Bool.and_true, Bool.true_and, Bool.and_self, Bool.and_false, Bool.false_and, reduceIte, Nat.zero_add, Nat.reduceAdd, Nat.reduceSub, Nat.reduceLT, Nat.reduceLeDiff, Nat.reduceEqDiff, decide_eq_true_eq, eq_self, Option.some.injEq, reduceCtorEq, Nat.lt_irrefl, h1.un, e2, ab, d2c, ← ec]
    rw [evSs_cons]; simp -implicitDefEqProofs only [evS, evT, evE, evP, evPs, evV, evA, evAnd, evOr, evI, Pv.a0, Pv.a1, Pv.v0, Pv.v1, opd, slotOf, satOp, Pv.two, Pv.one, ob_s, ob_n, sc_int, sc_bl, sc_str, sc_non, bd_ok, bd_exc, thenE_ok, thenE_exc, thenT_ok, thenT_exc, thenA_ok, thenI_ok, fl_nx, fl_ret, fl_exc, fl_bk, fl_ct, fl_nil, evSs_nil, asBl, asInt, un_non, un_bl, un_int, un_str, un_tup, un_lst, un_obj, un_un, fz, fzs, isSc, isScs, isFz, isFzs, isOwn, isOwns, dNeg, dT, tgA, setAll, okS, res, at2, it_tup, it_lst, chnD, lItems, tmps, cpyLoc, cpyTmp, ixTmp, ioPos, outFl, outsOf, fzs_ints, Pv.sto1, Pv.sto2, ownItems, at2_0, at2_1, at3_0, at3_1, at3_2, at4_0, at4_1, at4_2, at4_3, ix_20, ix_21, ix_40, ix_41, ix_42, ix_43, List.length_map, isFzs, d2_add, d2_sub, d2_lt, d2_le, d2_gt, d2_ge, d2_eq, d2_ne, d2_eqs, d2_eqb, d2_isn_non, d2_isn_int, d2_isn_bl, d2_isn_str, d2_isn_tup, d2_isn_lst, d2_notn_non, d2_notn_int, d2_notn_bl, d2_notn_str, d2_notn_tup, d2_notn_lst, d2_mod, d2_fdiv, Int.reduceToNat, Int.reducePow, Int.reduceEq, Int.reduceLT, Int.reduceLE, Int.reduceNeg, Int.reduceMul, Int.reduceAdd, Int.reduceSub, cst0, cst1, cst2, cst3, cst4, cst5, cst6, cst7, cst8, cst9, cst10, cst11, cst12, ne_eq, not_false_eq_true, not_true_eq_false, dF_gcd, dF_lenL, dF_lenT, dF_int, dF_intb, dF_abs, dF_min, dF_max, dI_ii, dI_ib, dI_is, dI_il, dI_it, dI_bi, dI_bb, dI_bs, dI_bl, dI_bt, dI_si, dI_sb, dI_ss, dI_sl, dI_st, dI_li, dI_lb, dI_ls, dI_ll, dI_lt, dI_ti, dI_tb, dI_ts, dI_tl, dI_tt, dI_ni, dI_nb, dI_ns, dI_nl, dI_nt, Option.map_some, List.length_cons, List.length_nil, List.getElem?_cons_zero, List.getElem?_cons_succ, List.getElem?_nil, List.set_cons_zero, List.set_cons_succ, List.set_nil, List.map_cons, List.map_nil, List.cons_append, List.nil_append, List.append_nil, List.replicate, List.getD_cons_zero, List.getD_cons_succ, List.contains_nil, List.contains_cons, Nat.reduceBEq, Bool.or_false, Bool.false_or, Bool.or_self, Bool.or_true, Bool.true_or, List.isEmpty_nil, List.isEmpty_cons, decide_true, decide_false, if_true, if_false, Bool.false_eq_true, Bool.not_true, Bool.not_false, Bool.and_true, Bool.true_and, Bool.and_self, Bool.and_false, Bool.false_and, reduceIte, Nat.zero_add, Nat.reduceAdd, Nat.reduceSub, Nat.reduceLT, Nat.reduceLeDiff, Nat.reduceEqDiff, decide_eq_true_eq, eq_self, Option.some.injEq, reduceCtorEq, Nat.lt_irrefl, h2.un, e3]
    rw [evSs_cons]; simp -implicitDefEqProofs only [evS, evT, evE, evP, evPs, evV, evA, evAnd, evOr, evI, Pv.a0, Pv.a1, Pv.v0, Pv.v1, opd, slotOf, satOp, Pv.two, Pv.one, ob_s, ob_n, sc_int, sc_bl, sc_str, sc_non, bd_ok, bd_exc, thenE_ok, thenE_exc, thenT_ok, thenT_exc, thenA_ok, thenI_ok, fl_nx, fl_ret, fl_exc, fl_bk, fl_ct, fl_nil, evSs_nil, asBl, asInt, un_non, un_bl, un_int, un_str, un_tup, un_lst, un_obj, un_un, fz, fzs, isSc, isScs, isFz, isFzs, isOwn, isOwns, dNeg, dT, tgA, setAll, okS, res, at2, it_tup, it_lst, chnD, lItems, tmps, cpyLoc, cpyTmp, ixTmp, ioPos, outFl, outsOf, fzs_ints, Pv.sto1, Pv.sto2, ownItems, at2_0, at2_1, at3_0, at3_1, at3_2, at4_0, at4_1, at4_2, at4_3, ix_20, ix_21, ix_40, ix_41, ix_42, ix_43, List.length_map, isFzs, d2_add, d2_sub, d2_lt, d2_le, d2_gt, d2_ge, d2_eq, d2_ne, d2_eqs, d2_eqb, d2_isn_non, d2_isn_int, d2_isn_bl, d2_isn_str, d2_isn_tup, d2_isn_lst, d2_notn_non, d2_notn_int, d2_notn_bl, d2_notn_str, d2_notn_tup, d2_notn_lst, d2_mod, d2_fdiv, Int.reduceToNat, Int.reducePow, Int.reduceEq, Int.reduceLT, Int.reduceLE, Int.reduceNeg, Int.reduceMul, Int.reduceAdd, Int.reduceSub, cst0, cst1, cst2, cst3, cst4, cst5, cst6, cst7, cst8, cst9, cst10, cst11, cst12, ne_eq, not_false_eq_true, not_true_eq_false, dF_gcd, dF_lenL, dF_lenT, dF_int, dF_intb, dF_abs, dF_min, dF_max, dI_ii, dI_ib, dI_is, dI_il, dI_it, dI_bi, dI_bb, dI_bs, dI_bl, dI_bt, dI_si, dI_sb, dI_ss, dI_sl, dI_st, dI_li, dI_lb, dI_ls, dI_ll, dI_lt, dI_ti, dI_tb, dI_ts, dI_tl, dI_tt, dI_ni, dI_nb, dI_ns, dI_nl, dI_nt, Option.map_some, List.length_cons, List.length_nil, List.getElem?_cons_zero, List.getElem?_cons_succ, List.getElem?_nil, List.set_cons_zero, List.set_cons_succ, List.set_nil, List.map_cons, List.map_nil, List.cons_append, List.nil_append, List.append_nil, List.replicate, List.getD_cons_zero, List.getD_cons_succ, List.contains_nil, List.contains_cons, Nat.reduceBEq, Bool.or_false, Bool.false_or, Bool.or_self, Bool.or_true, Bool.true_or, List.isEmpty_nil, List.isEmpty_cons, decide_true, decide_false, if_true, if_false, Bool.false_eq_true, Bool.not_true, Bool.not_false, Bool.and_true, Bool.true_and, Bool.and_self, Bool.and_false, Bool.false_and, reduceIte, Nat.zero_add, Nat.reduceAdd, Nat.reduceSub, Nat.reduceLT, Nat.reduceLeDiff, Nat.reduceEqDiff, decide_eq_true_eq, eq_self, Option.some.injEq, reduceCtorEq, Nat.lt_irrefl, k1]
    rw [evSs_cons]; simp -implicitDefEqProofs only [evS, evT, evE, evP, evPs, evV, evA, evAnd, evOr, evI, Pv.a0, Pv.a1, Pv.v0, Pv.v1, opd, slotOf, satOp, Pv.two, Pv.one, ob_s, ob_n, sc_int, sc_bl, sc_str, sc_non, bd_ok, bd_exc, thenE_ok, thenE_exc, thenT_ok, thenT_exc, thenA_ok, thenI_ok, fl_nx, fl_ret, fl_exc, fl_bk, fl_ct, fl_nil, evSs_nil, asBl, asInt, un_non, un_bl, un_int, un_str, un_tup, un_lst, un_obj, un_un, fz, fzs, isSc, isScs, isFz, isFzs, isOwn, isOwns, dNeg, dT, tgA, setAll, okS, res, at2, it_tup, it_lst, chnD, lItems, tmps, cpyLoc, cpyTmp, ixTmp, ioPos, outFl, outsOf, fzs_ints, Pv.sto1, Pv.sto2, ownItems, at2_0, at2_1, at3_0, at3_1, at3_2, at4_0, at4_1, at4_2, at4_3, ix_20, ix_21, ix_40, ix_41, ix_42, ix_43, List.length_map, isFzs, d2_add, d2_sub, d2_lt, d2_le, d2_gt, d2_ge, d2_eq, d2_ne, d2_eqs, d2_eqb, d2_isn_non, d2_isn_int, d2_isn_bl, d2_isn_str, d2_isn_tup, d2_isn_lst, d2_notn_non, d2_notn_int, d2_notn_bl, d2_notn_str, d2_notn_tup, d2_notn_lst, d2_mod, d2_fdiv, Int.reduceToNat, Int.reducePow, Int.reduceEq, Int.reduceLT, Int.reduceLE, Int.reduceNeg, Int.reduceMul, Int.reduceAdd, Int.reduceSub, cst0, cst1, cst2, cst3, cst4, cst5, cst6, cst7, cst8, cst9, cst10, cst11, cst12, ne_eq, not_false_eq_true, not_true_eq_false, dF_gcd, dF_lenL, dF_lenT, dF_int, dF_intb, dF_abs, dF_min, dF_max, dI_ii, dI_ib, dI_is, dI_il, dI_it, dI_bi, dI_bb, dI_bs, dI_bl, dI_bt, dI_si, dI_sb, dI_ss, dI_sl, dI_st, dI_li, dI_lb, dI_ls, dI_ll, dI_lt, dI_ti, dI_tb, dI_ts, dI_tl, dI_tt, dI_ni, dI_nb, dI_ns, dI_nl, dI_nt, Option.map_some, List.length_cons, List.length_nil, List.getElem?_cons_zero, List.getElem?_cons_succ, List.getElem?_nil, List.set_cons_zero, List.set_cons_succ, List.set_nil, List.map_cons, List.map_nil, List.cons_append, List.nil_append, List.append_nil, List.replicate, List.getD_cons_zero, List.getD_cons_succ, List.contains_nil, List.contains_cons, Nat.reduceBEq, Bool.or_false, Bool.false_or, Bool.or_self, Bool.or_true, Bool.true_or, List.isEmpty_nil, List.isEmpty_cons, decide_true, decide_false, if_true, if_false, Bool.false_eq_true, Bool.not_true, Bool.not_false, Bool.and_true, Bool.true_and, Bool.and_self, Bool.and_false, Bool.false_and, reduceIte, Nat.zero_add, Nat.reduceAdd, Nat.reduceSub, Nat.reduceLT, Nat.reduceLeDiff, Nat.reduceEqDiff, decide_eq_true_eq, eq_self, Option.some.injEq, reduceCtorEq, Nat.lt_irrefl, k2, evSs_cons, el, frD]
  have hc : ∃ j : Nat, t = 9 + (j : Int) ∧ j < 7 := ⟨(t - 9).toNat, by omega, by omega⟩
  obtain ⟨j, rfl, hj⟩ := hc
  have key : ∀ v : D, isUn v = false → frAsk (fz v) = true → isFrD (fz v) = false → L2.atI [.bl true, .tup [.int a, .int 0], .tup [.int a, .int (-c)], .lst true [.int a, .int c], .tup [.int a, .int c, .int 1], .tup [.bl true, .int c], .non] (j : Int) = some v →
      ∃ v w d', StOk d' ∧ NumP v w ∧ ob (evSs 0 (ioPos 0 [true]) b_L_number ([d] ++ List.replicate (5 - [d].length) .un)) (outFl [true]) = some (.ret (.lst true [v, w]) [d']) := by
    intro v hu ha hf hv
    refine ⟨fz v, .non, st3, h3, ⟨⟨by cases v <;> first | rfl | (cases hu), rfl⟩, by rw [fz_fz]; exact ha, .inl ⟨rfl, by rw [fz_fz]; exact hf⟩⟩, ?_⟩
    unfold b_L_number
    rw [evSs_cons]; simp -implicitDefEqProofs only [evS, evT, evE, evP, evPs, evV, evA, evAnd, evOr, evI, Pv.a0, Pv.a1, Pv.v0, Pv.v1, opd, slotOf, satOp, Pv.two, Pv.one, ob_s, ob_n, sc_int, sc_bl, sc_str, sc_non, bd_ok, bd_exc, thenE_ok, thenE_exc, thenT_ok, thenT_exc, thenA_ok, thenI_ok, fl_nx, fl_ret, fl_exc, fl_bk, fl_ct, fl_nil, evSs_nil, asBl, asInt, un_non, un_bl, un_int, un_str, un_tup, un_lst, un_obj, un_un, fz, fzs, isSc, isScs, isFz, isFzs, isOwn, isOwns, dNeg, dT, tgA, setAll, okS, res, at2, it_tup, it_lst, chnD, lItems, tmps, cpyLoc, cpyTmp, ixTmp, ioPos, outFl, outsOf, fzs_ints, Pv.sto1, Pv.sto2, ownItems, at2_0, at2_1, at3_0, at3_1, at3_2, at4_0, at4_1, at4_2, at4_3, ix_20, ix_21, ix_40, ix_41, ix_42, ix_43, List.length_map, isFzs, d2_add, d2_sub, d2_lt, d2_le, d2_gt, d2_ge, d2_eq, d2_ne, d2_eqs, d2_eqb, d2_isn_non, d2_isn_int, d2_isn_bl, d2_isn_str, d2_isn_tup, d2_isn_lst, d2_notn_non, d2_notn_int, d2_notn_bl, d2_notn_str, d2_notn_tup, d2_notn_lst, d2_mod, d2_fdiv, Int.reduceToNat, Int.reducePow, Int.reduceEq, Int.reduceLT, Int.reduceLE, Int.reduceNeg, Int.reduceMul, Int.reduceAdd, Int.reduceSub, cst0, cst1, cst2, cst3, cst4, cst5, cst6, cst7, cst8, cst9, cst10, cst11, cst12, ne_eq, not_false_eq_true, not_true_eq_false, dF_gcd, dF_lenL, dF_lenT, dF_int, dF_intb, dF_abs, dF_min, dF_max, dI_ii, dI_ib, dI_is, dI_il, dI_it, dI_bi, dI_bb, dI_bs, dI_bl, dI_bt, dI_si, dI_sb, dI_ss, dI_sl, dI_st, dI_li, dI_lb, dI_ls, dI_ll, dI_lt, dI_ti, dI_tb, dI_ts, dI_tl, dI_tt, dI_ni, dI_nb, dI_ns, dI_nl, dI_nt, Option.map_some, List.length_cons, List.length_nil, List.getElem?_cons_zero, List.getElem?_cons_succ, List.getElem?_nil, List.set_cons_zero, List.set_cons_succ, List.set_nil, List.map_cons, List.map_nil, List.cons_append, List.nil_append, List.append_nil, List.replicate, List.getD_cons_zero, List.getD_cons_succ, List.contains_nil, List.contains_cons, Nat.reduceBEq, Bool.or_false, Bool.false_or, Bool.or_self, Bool.or_true, Bool.true_or, List.isEmpty_nil, List.isEmpty_cons, decide_true, decide_false, if_true, if_false, Bool.false_eq_true, Bool.not_true, Bool.not_false, Bool.and_true, Bool.true_and, Bool.and_self, Bool.and_false, Bool.false_and, reduceIte, Nat.zero_add, Nat.reduceAdd, Nat.reduceSub, Nat.reduceLT, Nat.reduceLeDiff, Nat.reduceEqDiff, decide_eq_true_eq, eq_self, Option.some.injEq, reduceCtorEq, Nat.lt_irrefl, h.un, e1]
    rw [evSs_cons]; simp -implicitDefEqProofs only [evS, evT, evE, evP, evPs, evV, evA, evAnd, evOr, evI, Pv.a0, Pv.a1, Pv.v0, Pv.v1, opd, slotOf, satOp, Pv.two, Pv.one, ob_s, ob_n, sc_int, sc_bl, sc_str, sc_non, bd_ok, bd_exc, thenE_ok, thenE_exc, thenT_ok, thenT_exc, thenA_ok, thenI_ok, fl_nx, fl_ret, fl_exc, fl_bk, fl_ct, fl_nil, evSs_nil, asBl, asInt, un_non, un_bl, un_int, un_str, un_tup, un_lst, un_obj, un_un, fz, fzs, isSc, isScs, isFz, isFzs, isOwn, isOwns, dNeg, dT, tgA, setAll, okS, res, at2, it_tup, it_lst, chnD, lItems, tmps, cpyLoc, cpyTmp, ixTmp, ioPos, outFl, outsOf, fzs_ints, Pv.sto1, Pv.sto2, ownItems, at2_0, at2_1, at3_0, at3_1, at3_2, at4_0, at4_1, at4_2, at4_3, ix_20, ix_21, ix_40, ix_41, ix_42, ix_43, List.length_map, isFzs, d2_add, d2_sub, d2_lt, d2_le, d2_gt, d2_ge, d2_eq, d2_ne, d2_eqs, d2_eqb, d2_isn_non, d2_isn_int, d2_isn_bl, d2_isn_str, d2_isn_tup, d2_isn_lst, d2_notn_non, d2_notn_int, d2_notn_bl, d2_notn_str, d2_notn_tup, d2_notn_lst, d2_mod, d2_fdiv, Int.reduceToNat, Int.reducePow, Int.reduceEq, Int.reduceLT, Int.reduceLE, Int.reduceNeg, Int.reduceMul, Int.reduceAdd, Int.reduceSub, cst0, cst1, cst2, cst3, cst4, cst5, cst6, cst7, cst8, cst9, cst10, cst11, cst12, ne_eq, not_false_eq_true, not_true_eq_false, dF_gcd, dF_lenL, dF_lenT, dF_int, dF_intb, dF_abs, dF_min, dF_max, dI_ii, dI_ib, dI_is, dI_il, dI_it, dI_bi, dI_bb, dI_bs, dI_bl, dI_bt, dI_si, dI_sb, dI_ss, dI_sl, dI_st, dI_li, dI_lb, dI_ls, dI_ll, dI_lt, dI_ti, dI_tb, dI_ts, dI_tl, dI_tt, dI_ni, dI_nb, dI_ns, dI_nl, dI_nt, Option.map_some, List.length_cons, List.length_nil, List.getElem?_cons_zero, List.getElem?_cons_succ, List.getElem?_nil, List.set_cons_zero, List.set_cons_succ, List.set_nil, List.map_cons, List.map_nil, List.cons_append, List.nil_append, List.append_nil, List.replicate, List.getD_cons_zero, List.getD_cons_succ, List.contains_nil, List.contains_cons, Nat.reduceBEq, Bool.or_false, Bool.false_or, Bool.or_self, Bool.or_true, Bool.true_or, List.isEmpty_nil, List.isEmpty_cons, decide_true, decide_false, if_true, if_false, Bool.false_eq_true, Bool.not_true, Bool.not_false, Bool.and_true, Bool.true_and, Bool.and_self, Bool.and_false, Bool.false_and, reduceIte, Nat.zero_add, Nat.reduceAdd, Nat.reduceSub, Nat.reduceLT, Nat.reduceLeDiff, Nat.reduceEqDiff, decide_eq_true_eq, eq_self, Option.some.injEq, reduceCtorEq, Nat.lt_irrefl, h1.un, e2, ab, d2c, ← ec]
    rw [evSs_cons]; simp -implicitDefEqProofs only [evS, evT, evE, evP, evPs, evV, evA, evAnd, evOr, evI, Pv.a0, Pv.a1, Pv.v0, Pv.v1, opd, slotOf, satOp, Pv.two, Pv.one, ob_s, ob_n, sc_int, sc_bl, sc_str, sc_non, bd_ok, bd_exc, thenE_ok, thenE_exc, thenT_ok, thenT_exc, thenA_ok, thenI_ok, fl_nx, fl_ret, fl_exc, fl_bk, fl_ct, fl_nil, evSs_nil, asBl, asInt, un_non, un_bl, un_int, un_str, un_tup, un_lst, un_obj, un_un, fz, fzs, isSc, isScs, isFz, isFzs, isOwn, isOwns, dNeg, dT, tgA, setAll, okS, res, at2, it_tup, it_lst, chnD, lItems, tmps, cpyLoc, cpyTmp, ixTmp, ioPos, outFl, outsOf, fzs_ints, Pv.sto1, Pv.sto2, ownItems, at2_0, at2_1, at3_0, at3_1, at3_2, at4_0, at4_1, at4_2, at4_3, ix_20, ix_21, ix_40, ix_41, ix_42, ix_43, List.length_map, isFzs, d2_add, d2_sub, d2_lt, d2_le, d2_gt, d2_ge, d2_eq, d2_ne, d2_eqs, d2_eqb, d2_isn_non, d2_isn_int, d2_isn_bl, d2_isn_str, d2_isn_tup, d2_isn_lst, d2_notn_non, d2_notn_int, d2_notn_bl, d2_notn_str, d2_notn_tup, d2_notn_lst, d2_mod, d2_fdiv, Int.reduceToNat, Int.reducePow, Int.reduceEq, Int.reduceLT, Int.reduceLE, Int.reduceNeg, Int.reduceMul, Int.reduceAdd, Int.reduceSub, cst0, cst1, cst2, cst3, cst4, cst5, cst6, cst7, cst8, cst9, cst10, cst11, cst12, ne_eq, not_false_eq_true, not_true_eq_false, dF_gcd, dF_lenL, dF_lenT, dF_int, dF_intb, dF_abs, dF_min, dF_max, dI_ii, dI_ib, dI_is, dI_il, dI_it, dI_bi, dI_bb, dI_bs, dI_bl, dI_bt, dI_si, dI_sb, dI_ss, dI_sl, dI_st, dI_li, dI_lb, dI_ls, dI_ll, dI_lt, dI_ti, dI_tb, dI_ts, dI_tl, dI_tt, dI_ni, dI_nb, dI_ns, dI_nl, dI_nt, Option.map_some, List.length_cons, List.length_nil, List.getElem?_cons_zero, List.getElem?_cons_succ, List.getElem?_nil, List.set_cons_zero, List.set_cons_succ, List.set_nil, List.map_cons, List.map_nil, List.cons_append, List.nil_append, List.append_nil, List.replicate, List.getD_cons_zero, List.getD_cons_succ, List.contains_nil, List.contains_cons, Nat.reduceBEq, Bool.or_false, Bool.false_or, Bool.or_self, Bool.or_true, Bool.true_or, List.isEmpty_nil, List.isEmpty_cons, decide_true, decide_false, if_true, if_false, Bool.false_eq_true, Bool.not_true, Bool.not_false, Bool.and_true, Bool.true_and, Bool.and_self, Bool.and_false, Bool.false_and, reduceIte, Nat.zero_add, Nat.reduceAdd, Nat.reduceSub, Nat.reduceLT, Nat.reduceLeDiff, Nat.reduceEqDiff, decide_eq_true_eq, eq_self, Option.some.injEq, reduceCtorEq, Nat.lt_irrefl, h2.un, e3]
    rw [evSs_cons]; simp -implicitDefEqProofs only [evS, evT, evE, evP, evPs, evV, evA, evAnd, evOr, evI, Pv.a0, Pv.a1, Pv.v0, Pv.v1, opd, slotOf, satOp, Pv.two, Pv.one, ob_s, ob_n, sc_int, sc_bl, sc_str, sc_non, bd_ok, bd_exc, thenE_ok, thenE_exc, thenT_ok, thenT_exc, thenA_ok, thenI_ok, fl_nx, fl_ret, fl_exc, fl_bk, fl_ct, fl_nil, evSs_nil, asBl, asInt, un_non, un_bl, un_int, un_str, un_tup, un_lst, un_obj, un_un, fz, fzs, isSc, isScs, isFz, isFzs, isOwn, isOwns, dNeg, dT, tgA, setAll, okS, res, at2, it_tup, it_lst, chnD, lItems, tmps, cpyLoc, cpyTmp, ixTmp, ioPos, outFl, outsOf, fzs_ints, Pv.sto1, Pv.sto2, ownItems, at2_0, at2_1, at3_0, at3_1, at3_2, at4_0, at4_1, at4_2, at4_3, ix_20, ix_21, ix_40, ix_41, ix_42, ix_43, List.length_map, isFzs, d2_add, d2_sub, d2_lt, d2_le, d2_gt, d2_ge, d2_eq, d2_ne, d2_eqs, d2_eqb, d2_isn_non, d2_isn_int, d2_isn_bl, d2_isn_str, d2_isn_tup, d2_isn_lst, d2_notn_non, d2_notn_int, d2_notn_bl, d2_notn_str, d2_notn_tup, d2_notn_lst, d2_mod, d2_fdiv, Int.reduceToNat, Int.reducePow, Int.reduceEq, Int.reduceLT, Int.reduceLE, Int.reduceNeg, Int.reduceMul, Int.reduceAdd, Int.reduceSub, cst0, cst1, cst2, cst3, cst4, cst5, cst6, cst7, cst8, cst9, cst10, cst11, cst12, ne_eq, not_false_eq_true, not_true_eq_false, dF_gcd, dF_lenL, dF_lenT, dF_int, dF_intb, dF_abs, dF_min, dF_max, dI_ii, dI_ib, dI_is, dI_il, dI_it, dI_bi, dI_bb, dI_bs, dI_bl, dI_bt, dI_si, dI_sb, dI_ss, dI_sl, dI_st, dI_li, dI_lb, dI_ls, dI_ll, dI_lt, dI_ti, dI_tb, dI_ts, dI_tl, dI_tt, dI_ni, dI_nb, dI_ns, dI_nl, dI_nt, Option.map_some, List.length_cons, List.length_nil, List.getElem?_cons_zero, List.getElem?_cons_succ, List.getElem?_nil, List.set_cons_zero, List.set_cons_succ, List.set_nil, List.map_cons, List.map_nil, List.cons_append, List.nil_append, List.append_nil, List.replicate, List.getD_cons_zero, List.getD_cons_succ, List.contains_nil, List.contains_cons, Nat.reduceBEq, Bool.or_false, Bool.false_or, Bool.or_self, Bool.or_true, Bool.true_or, List.isEmpty_nil, List.isEmpty_cons, decide_true, decide_false, if_true, if_false, Bool.false_eq_true, Bool.not_true, Bool.not_false, Bool.and_true, Bool.true_and, Bool.and_self, Bool.and_false, Bool.false_and, reduceIte, Nat.zero_add, Nat.reduceAdd, Nat.reduceSub, Nat.reduceLT, Nat.reduceLeDiff, Nat.reduceEqDiff, decide_eq_true_eq, eq_self, Option.some.injEq, reduceCtorEq, Nat.lt_irrefl, k1]
    rw [evSs_cons]; simp -implicitDefEqProofs only [evS, evT, evE, evP, evPs, evV, evA, evAnd, evOr, evI, Pv.a0, Pv.a1, Pv.v0, Pv.v1, opd, slotOf, satOp, Pv.two, Pv.one, ob_s, ob_n, sc_int, sc_bl, sc_str, sc_non, bd_ok, bd_exc, thenE_ok, thenE_exc, thenT_ok, thenT_exc, thenA_ok, thenI_ok, fl_nx, fl_ret, fl_exc, fl_bk, fl_ct, fl_nil, evSs_nil, asBl, asInt, un_non, un_bl, un_int, un_str, un_tup, un_lst, un_obj, un_un, fz, fzs, isSc, isScs, isFz, isFzs, isOwn, isOwns, dNeg, dT, tgA, setAll, okS, res, at2, it_tup, it_lst, chnD, lItems, tmps, cpyLoc, cpyTmp, ixTmp, ioPos, outFl, outsOf, fzs_ints, Pv.sto1, Pv.sto2, ownItems, at2_0, at2_1, at3_0, at3_1, at3_2, at4_0, at4_1, at4_2, at4_3, ix_20, ix_21, ix_40, ix_41, ix_42, ix_43, List.length_map, isFzs, d2_add, d2_sub, d2_lt, d2_le, d2_gt, d2_ge, d2_eq, d2_ne, d2_eqs, d2_eqb, d2_isn_non, d2_isn_int, d2_isn_bl, d2_isn_str, d2_isn_tup, d2_isn_lst, d2_notn_non, d2_notn_int, d2_notn_bl, d2_notn_str, d2_notn_tup, d2_notn_lst, d2_mod, d2_fdiv, Int.reduceToNat, Int.reducePow, Int.reduceEq, Int.reduceLT, Int.reduceLE, Int.reduceNeg, Int.reduceMul, Int.reduceAdd, Int.reduceSub, cst0, cst1, cst2, cst3, cst4, cst5, cst6, cst7, cst8, cst9, cst10, cst11, cst12, ne_eq, not_false_eq_true, not_true_eq_false, dF_gcd, dF_lenL, dF_lenT, dF_int, dF_intb, dF_abs, dF_min, dF_max, dI_ii, dI_ib, dI_is, dI_il, dI_it, dI_bi, dI_bb, dI_bs, dI_bl, dI_bt, dI_si, dI_sb, dI_ss, dI_sl, dI_st, dI_li, dI_lb, dI_ls, dI_ll, dI_lt, dI_ti, dI_tb, dI_ts, dI_tl, dI_tt, dI_ni, dI_nb, dI_ns, dI_nl, dI_nt, Option.map_some, List.length_cons, List.length_nil, List.getElem?_cons_zero, List.getElem?_cons_succ, List.getElem?_nil, List.set_cons_zero, List.set_cons_succ, List.set_nil, List.map_cons, List.map_nil, List.cons_append, List.nil_append, List.append_nil, List.replicate, List.getD_cons_zero, List.getD_cons_succ, List.contains_nil, List.contains_cons, Nat.reduceBEq, Bool.or_false, Bool.false_or, Bool.or_self, Bool.or_true, Bool.true_or, List.isEmpty_nil, List.isEmpty_cons, decide_true, decide_false, if_true, if_false, Bool.false_eq_true, Bool.not_true, Bool.not_false, Bool.and_true, Bool.true_and, Bool.and_self, Bool.and_false, Bool.false_and, reduceIte, Nat.zero_add, Nat.reduceAdd, Nat.reduceSub, Nat.reduceLT, Nat.reduceLeDiff, Nat.reduceEqDiff, decide_eq_true_eq, eq_self, Option.some.injEq, reduceCtorEq, Nat.lt_irrefl, k2]
    rw [evSs_cons]; simp -implicitDefEqProofs only [evS, evT, evE, evP, evPs, evV, evA, evAnd, evOr, evI, Pv.a0, Pv.a1, Pv.v0, Pv.v1, opd, slotOf, satOp, Pv.two, Pv.one, ob_s, ob_n, sc_int, sc_bl, sc_str, sc_non, bd_ok, bd_exc, thenE_ok, thenE_exc, thenT_ok, thenT_exc, thenA_ok, thenI_ok, fl_nx, fl_ret, fl_exc, fl_bk, fl_ct, fl_nil, evSs_nil, asBl, asInt, un_non, un_bl, un_int, un_str, un_tup, un_lst, un_obj, un_un, fz, fzs, isSc, isScs, isFz, isFzs, isOwn, isOwns, dNeg, dT, tgA, setAll, okS, res, at2, it_tup, it_lst, chnD, lItems, tmps, cpyLoc, cpyTmp, ixTmp, ioPos, outFl, outsOf, fzs_ints, Pv.sto1, Pv.sto2, ownItems, at2_0, at2_1, at3_0, at3_1, at3_2, at4_0, at4_1, at4_2, at4_3, ix_20, ix_21, ix_40, ix_41, ix_42, ix_43, List.length_map, isFzs, d2_add, d2_sub, d2_lt, d2_le, d2_gt, d2_ge, d2_eq, d2_ne, d2_eqs, d2_eqb, d2_isn_non, d2_isn_int, d2_isn_bl, d2_isn_str, d2_isn_tup, d2_isn_lst, d2_notn_non, d2_notn_int, d2_notn_bl, d2_notn_str, d2_notn_tup, d2_notn_lst, d2_mod, d2_fdiv, Int.reduceToNat, Int.reducePow, Int.reduceEq, Int.reduceLT, Int.reduceLE, Int.reduceNeg, Int.reduceMul, Int.reduceAdd, Int.reduceSub, cst0, cst1, cst2, cst3, cst4, cst5, cst6, cst7, cst8, cst9, cst10, cst11, cst12, ne_eq, not_false_eq_true, not_true_eq_false, dF_gcd, dF_lenL, dF_lenT, dF_int, dF_intb, dF_abs, dF_min, dF_max, dI_ii, dI_ib, dI_is, dI_il, dI_it, dI_bi, dI_bb, dI_bs, dI_bl, dI_bt, dI_si, dI_sb, dI_ss, dI_sl, dI_st, dI_li, dI_lb, dI_ls, dI_ll, dI_lt, dI_ti, dI_tb, dI_ts, dI_tl, dI_tt, dI_ni, dI_nb, dI_ns, dI_nl, dI_nt, Option.map_some, List.length_cons, List.length_nil, List.getElem?_cons_zero, List.getElem?_cons_succ, List.getElem?_nil, List.set_cons_zero, List.set_cons_succ, List.set_nil, List.map_cons, List.map_nil, List.cons_append, List.nil_append, List.append_nil, List.replicate, List.getD_cons_zero, List.getD_cons_succ, List.contains_nil, List.contains_cons, Nat.reduceBEq, Bool.or_false, Bool.false_or, Bool.or_self, Bool.or_true, Bool.true_or, List.isEmpty_nil, List.isEmpty_cons, decide_true, decide_false, if_true, if_false, Bool.false_eq_true, Bool.not_true, Bool.not_false, Bool.and_true, Bool.true_and, Bool.and_self, Bool.and_false, Bool.false_and, reduceIte, Nat.zero_add, Nat.reduceAdd, Nat.reduceSub, Nat.reduceLT, Nat.reduceLeDiff, Nat.reduceEqDiff, decide_eq_true_eq, eq_self, Option.some.injEq, reduceCtorEq, Nat.lt_irrefl, Int.zero_sub]
    have ej : (9 : Int) + (j : Int) - 9 = (j : Int) := by omega
    rw [evSs_cons]; simp -implicitDefEqProofs only [evS, evT, evE, evP, evPs, evV, evA, evAnd, evOr, evI, Pv.a0, Pv.a1, Pv.v0, Pv.v1, opd, slotOf, satOp, Pv.two, Pv.one, ob_s, ob_n, sc_int, sc_bl, sc_str, sc_non, bd_ok, bd_exc, thenE_ok, thenE_exc, thenT_ok, thenT_exc, thenA_ok, thenI_ok, fl_nx, fl_ret, fl_exc, fl_bk, fl_ct, fl_nil, evSs_nil, asBl, asInt, un_non, un_bl, un_int, un_str, un_tup, un_lst, un_obj, un_un, fz, fzs, isSc, isScs, isFz, isFzs, isOwn, isOwns, dNeg, dT, tgA, setAll, okS, res, at2, it_tup, it_lst, chnD, lItems, tmps, cpyLoc, cpyTmp, ixTmp, ioPos, outFl, outsOf, fzs_ints, Pv.sto1, Pv.sto2, ownItems, at2_0, at2_1, at3_0, at3_1, at3_2, at4_0, at4_1, at4_2, at4_3, ix_20, ix_21, ix_40, ix_41, ix_42, ix_43, List.length_map, isFzs, d2_add, d2_sub, d2_lt, d2_le, d2_gt, d2_ge, d2_eq, d2_ne, d2_eqs, d2_eqb, d2_isn_non, d2_isn_int, d2_isn_bl, d2_isn_str, d2_isn_tup, d2_isn_lst, d2_notn_non, d2_notn_int, d2_notn_bl, d2_notn_str, d2_notn_tup, d2_notn_lst, d2_mod, d2_fdiv, Int.reduceToNat, Int.reducePow, Int.reduceEq, Int.reduceLT, Int.reduceLE, Int.reduceNeg, Int.reduceMul, Int.reduceAdd, Int.reduceSub, cst0, cst1, cst2, cst3, cst4, cst5, cst6, cst7, cst8, cst9, cst10, cst11, cst12, ne_eq, not_false_eq_true, not_true_eq_false, dF_gcd, dF_lenL, dF_lenT, dF_int, dF_intb, dF_abs, dF_min, dF_max, dI_ii, dI_ib, dI_is, dI_il, dI_it, dI_bi, dI_bb, dI_bs, dI_bl, dI_bt, dI_si, dI_sb, dI_ss, dI_sl, dI_st, dI_li, dI_lb, dI_ls, dI_ll, dI_lt, dI_ti, dI_tb, dI_ts, dI_tl, dI_tt, dI_ni, dI_nb, dI_ns, dI_nl, dI_nt, Option.map_some, List.length_cons, List.length_nil, List.getElem?_cons_zero, List.getElem?_cons_succ, List.getElem?_nil, List.set_cons_zero, List.set_cons_succ, List.set_nil, List.map_cons, List.map_nil, List.cons_append, List.nil_append, List.append_nil, List.replicate, List.getD_cons_zero, List.getD_cons_succ, List.contains_nil, List.contains_cons, Nat.reduceBEq, Bool.or_false, Bool.false_or, Bool.or_self, Bool.or_true, Bool.true_or, List.isEmpty_nil, List.isEmpty_cons, decide_true, decide_false, if_true, if_false, Bool.false_eq_true, Bool.not_true, Bool.not_false, Bool.and_true, Bool.true_and, Bool.and_self, Bool.and_false, Bool.false_and, reduceIte, Nat.zero_add, Nat.reduceAdd, Nat.reduceSub, Nat.reduceLT, Nat.reduceLeDiff, Nat.reduceEqDiff, decide_eq_true_eq, eq_self, Option.some.injEq, reduceCtorEq, Nat.lt_irrefl, ixLoc, ej, hv]
    by_cases z : isFz v = true
    · rw [fz_id v z]; simp -implicitDefEqProofs only [evS, evT, evE, evP, evPs, evV, evA, evAnd, evOr, evI, Pv.a0, Pv.a1, Pv.v0, Pv.v1, opd, slotOf, satOp, Pv.two, Pv.one, ob_s, ob_n, sc_int, sc_bl, sc_str, sc_non, bd_ok, bd_exc, thenE_ok, thenE_exc, thenT_ok, thenT_exc, thenA_ok, thenI_ok, fl_nx, fl_ret, fl_exc, fl_bk, fl_ct, fl_nil, evSs_nil, asBl, asInt, un_non, un_bl, un_int, un_str, un_tup, un_lst, un_obj, un_un, fz, fzs, isSc, isScs, isFz, isFzs, isOwn, isOwns, dNeg, dT, tgA, setAll, okS, res, at2, it_tup, it_lst, chnD, lItems, tmps, cpyLoc, cpyTmp, ixTmp, ioPos, outFl, outsOf, fzs_ints, Pv.sto1, Pv.sto2, ownItems, at2_0, at2_1, at3_0, at3_1, at3_2, at4_0, at4_1, at4_2, at4_3, ix_20, ix_21, ix_40, ix_41, ix_42, ix_43, List.length_map, isFzs, d2_add, d2_sub, d2_lt, d2_le, d2_gt, d2_ge, d2_eq, d2_ne, d2_eqs, d2_eqb, d2_isn_non, d2_isn_int, d2_isn_bl, d2_isn_str, d2_isn_tup, d2_isn_lst, d2_notn_non, d2_notn_int, d2_notn_bl, d2_notn_str, d2_notn_tup, d2_notn_lst, d2_mod, d2_fdiv, Int.reduceToNat, Int.reducePow, Int.reduceEq, Int.reduceLT, Int.reduceLE, Int.reduceNeg, Int.reduceMul, Int.reduceAdd, Int.reduceSub, cst0, cst1, cst2, cst3, cst4, cst5, cst6, cst7, cst8, cst9, cst10, cst11, cst12, ne_eq, not_false_eq_true, not_true_eq_false, dF_gcd, dF_lenL, dF_lenT, dF_int, dF_intb, dF_abs, dF_min, dF_max, dI_ii, dI_ib, dI_is, dI_il, dI_it, dI_bi, dI_bb, dI_bs, dI_bl, dI_bt, dI_si, dI_sb, dI_ss, dI_sl, dI_st, dI_li, dI_lb, dI_ls, dI_ll, dI_lt, dI_ti, dI_tb, dI_ts, dI_tl, dI_tt, dI_ni, dI_nb, dI_ns, dI_nl, dI_nt, Option.map_some, List.length_cons, List.length_nil, List.getElem?_cons_zero, List.getElem?_cons_succ, List.getElem?_nil, List.set_cons_zero, List.set_cons_succ, List.set_nil, List.map_cons, List.map_nil, List.cons_append, List.nil_append, List.append_nil, List.replicate, List.getD_cons_zero, List.getD_cons_succ, List.contains_nil, List.contains_cons, Nat.reduceBEq, Bool.or_false, Bool.false_or, Bool.or_self, Bool.or_true, Bool.true_or, List.isEmpty_nil, List.isEmpty_cons, decide_true, decide_false, if_true, if_false, Bool.false_eq_true, Bool.not_true, Bool.not_false, Bool.and_true, Bool.true_and, Bool.and_self, Bool.and_false, Bool.false_and, reduceIte, Nat.zero_add, Nat.reduceAdd, Nat.reduceSub, Nat.reduceLT, Nat.reduceLeDiff, Nat.reduceEqDiff, decide_eq_true_eq, eq_self, Option.some.injEq, reduceCtorEq, Nat.lt_irrefl, z]
    · simp -implicitDefEqProofs only [evS, evT, evE, evP, evPs, evV, evA, evAnd, evOr, evI, Pv.a0, Pv.a1, Pv.v0, Pv.v1, opd, slotOf, satOp, Pv.two, Pv.one, ob_s, ob_n, sc_int, sc_bl, sc_str, sc_non, bd_ok, bd_exc, thenE_ok, thenE_exc, thenT_ok, thenT_exc, thenA_ok, thenI_ok, fl_nx, fl_ret, fl_exc, fl_bk, fl_ct, fl_nil, evSs_nil, asBl, asInt, un_non, un_bl, un_int, un_str, un_tup, un_lst, un_obj, un_un, fz, fzs, isSc, isScs, isFz, isFzs, isOwn, isOwns, dNeg, dT, tgA, setAll, okS, res, at2, it_tup, it_lst, chnD, lItems, tmps, cpyLoc, cpyTmp, ixTmp, ioPos, outFl, outsOf, fzs_ints, Pv.sto1, Pv.sto2, ownItems, at2_0, at2_1, at3_0, at3_1, at3_2, at4_0, at4_1, at4_2, at4_3, ix_20, ix_21, ix_40, ix_41, ix_42, ix_43, List.length_map, isFzs, d2_add, d2_sub, d2_lt, d2_le, d2_gt, d2_ge, d2_eq, d2_ne, d2_eqs, d2_eqb, d2_isn_non, d2_isn_int, d2_isn_bl, d2_isn_str, d2_isn_tup, d2_isn_lst, d2_notn_non, d2_notn_int, d2_notn_bl, d2_notn_str, d2_notn_tup, d2_notn_lst, d2_mod, d2_fdiv, Int.reduceToNat, Int.reducePow, Int.reduceEq, Int.reduceLT, Int.reduceLE, Int.reduceNeg, Int.reduceMul, Int.reduceAdd, Int.reduceSub, cst0, cst1, cst2, cst3, cst4, cst5, cst6, cst7, cst8, cst9, cst10, cst11, cst12, ne_eq, not_false_eq_true, not_true_eq_false, dF_gcd, dF_lenL, dF_lenT, dF_int, dF_intb, dF_abs, dF_min, dF_max, dI_ii, dI_ib, dI_is, dI_il, dI_it, dI_bi, dI_bb, dI_bs, dI_bl, dI_bt, dI_si, dI_sb, dI_ss, dI_sl, dI_st, dI_li, dI_lb, dI_ls, dI_ll, dI_lt, dI_ti, dI_tb, dI_ts, dI_tl, dI_tt, dI_ni, dI_nb, dI_ns, dI_nl, dI_nt, Option.map_some, List.length_cons, List.length_nil, List.getElem?_cons_zero, List.getElem?_cons_succ, List.getElem?_nil, List.set_cons_zero, List.set_cons_succ, List.set_nil, List.map_cons, List.map_nil, List.cons_append, List.nil_append, List.append_nil, List.replicate, List.getD_cons_zero, List.getD_cons_succ, List.contains_nil, List.contains_cons, Nat.reduceBEq, Bool.or_false, Bool.false_or, Bool.or_self, Bool.or_true, Bool.true_or, List.isEmpty_nil, List.isEmpty_cons, decide_true, decide_false, if_true, if_false, Bool.false_eq_true, Bool.not_true, Bool.not_false, Bool.and_true, Bool.true_and, Bool.and_self, Bool.and_false, Bool.false_and, reduceIte, Nat.zero_add, Nat.reduceAdd, Nat.reduceSub, Nat.reduceLT, Nat.reduceLeDiff, Nat.reduceEqDiff, decide_eq_true_eq, eq_self, Option.some.injEq, reduceCtorEq, Nat.lt_irrefl, z]
  have cm : 1 ≤ c := c1
  unfold b_L_number at key
  match j, hj, key with
  | 0, _, key => exact key _ rfl rfl rfl rfl
  | 1, _, key => exact key _ rfl rfl (by simp [fz, fzs, isFrD]) rfl
  | 2, _, key => exact key _ rfl rfl (by simp [fz, fzs, isFrD]; omega) rfl
  | 3, _, key => exact key _ rfl rfl rfl rfl
  | 4, _, key => exact key _ rfl rfl rfl rfl
  | 5, _, key => exact key _ rfl rfl rfl rfl
  | 6, _, key => exact key _ rfl rfl rfl rfl
theorem call_number {d : D} {s : Nat} {rs : List D} (h : StOk d) (e : rs[s]? = some d) : ∃ v w d', StOk d' ∧ NumP v w ∧ callD F_L_number [.loc s] rs = some (.ok (.lst true [v, w]) (rs.set s d')) := by
  obtain ⟨i, w, d', h1, h2, h3⟩ := number_ok h
  exact ⟨i, w, d', h1, h2, call_io1' e h3⟩
end Pv

set_option maxHeartbeats 4000000
namespace Pv
open PySem
/-! ### sums, products -/
def okF (a b c d : Int) : Bool := mulOk a d && (mulOk c b && (mulOk b d && decide (b * d ≠ 0)))
def m_plus : List D → Option Out
  | [.tup [.int a, .int b], .tup [.int c, .int d]] => if okF a b c d then some (.ret (frD (lowI (a * d + c * b) (b * d))) []) else none
  | _ => none
def m_minus : List D → Option Out
  | [.tup [.int a, .int b], .tup [.int c, .int d]] => if okF a b c d then some (.ret (frD (lowI (a * d - c * b) (b * d))) []) else none
  | _ => none
def m_times : List D → Option Out
  | [.tup [.int a, .int b], .tup [.int c, .int d]] => if mulOk a c && (mulOk b d && decide (b * d ≠ 0)) then some (.ret (frD (lowI (a * c) (b * d))) []) else none
  | _ => none
def m_less : List D → Option Out
  | [.tup [.int a, .int b], .tup [.int c, .int d]] => if mulOk a d && mulOk c b then some (.ret (.bl (decide (a * d < c * b))) []) else none
  | _ => none
def F_plus : Fn := ⟨[false, false], m_plus⟩
def F_minus : Fn := ⟨[false, false], m_minus⟩
def F_times : Fn := ⟨[false, false], m_times⟩
def F_less : Fn := ⟨[false, false], m_less⟩
def F_L_plus : Fn := ⟨[false, false], m_plus⟩
def F_L_minus : Fn := ⟨[false, false], m_minus⟩
def F_L_times : Fn := ⟨[false, false], m_times⟩
def b_plus : Ss := .cons (.ret (.call "lowest" F_lowest (.cons (.pk (.op2 .add (.op2 .mul (.ix (.var 0) (.con (.int 0))) (.ix (.var 1) (.con (.int 1)))) (.op2 .mul (.ix (.var 1) (.con (.int 0))) (.ix (.var 0) (.con (.int 1)))))) (.cons (.pk (.op2 .mul (.ix (.var 0) (.con (.int 1))) (.ix (.var 1) (.con (.int 1))))) (.nil))))) (.nil)
def n_plus : Nat := 2
def b_minus : Ss := .cons (.ret (.call "lowest" F_lowest (.cons (.pk (.op2 .sub (.op2 .mul (.ix (.var 0) (.con (.int 0))) (.ix (.var 1) (.con (.int 1)))) (.op2 .mul (.ix (.var 1) (.con (.int 0))) (.ix (.var 0) (.con (.int 1)))))) (.cons (.pk (.op2 .mul (.ix (.var 0) (.con (.int 1))) (.ix (.var 1) (.con (.int 1))))) (.nil))))) (.nil)
def n_minus : Nat := 2
def b_times : Ss := .cons (.ret (.call "lowest" F_lowest (.cons (.pk (.op2 .mul (.ix (.var 0) (.con (.int 0))) (.ix (.var 1) (.con (.int 0))))) (.cons (.pk (.op2 .mul (.ix (.var 0) (.con (.int 1))) (.ix (.var 1) (.con (.int 1))))) (.nil))))) (.nil)
def n_times : Nat := 2
def b_less : Ss := .cons (.ret (.pk (.op2 .lt (.op2 .mul (.ix (.var 0) (.con (.int 0))) (.ix (.var 1) (.con (.int 1)))) (.op2 .mul (.ix (.var 1) (.con (.int 0))) (.ix (.var 0) (.con (.int 1))))))) (.nil)
def n_less : Nat := 2
def b_L_plus : Ss := .cons (.ret (.call "_law_low" F_L_low (.cons (.pk (.op2 .add (.op2 .mul (.ix (.var 0) (.con (.int 0))) (.ix (.var 1) (.con (.int 1)))) (.op2 .mul (.ix (.var 1) (.con (.int 0))) (.ix (.var 0) (.con (.int 1)))))) (.cons (.pk (.op2 .mul (.ix (.var 0) (.con (.int 1))) (.ix (.var 1) (.con (.int 1))))) (.nil))))) (.nil)
def n_L_plus : Nat := 2
def b_L_minus : Ss := .cons (.ret (.call "_law_low" F_L_low (.cons (.pk (.op2 .sub (.op2 .mul (.ix (.var 0) (.con (.int 0))) (.ix (.var 1) (.con (.int 1)))) (.op2 .mul (.ix (.var 1) (.con (.int 0))) (.ix (.var 0) (.con (.int 1)))))) (.cons (.pk (.op2 .mul (.ix (.var 0) (.con (.int 1))) (.ix (.var 1) (.con (.int 1))))) (.nil))))) (.nil)
def n_L_minus : Nat := 2
def b_L_times : Ss := .cons (.ret (.call "_law_low" F_L_low (.cons (.pk (.op2 .mul (.ix (.var 0) (.con (.int 0))) (.ix (.var 1) (.con (.int 0))))) (.cons (.pk (.op2 .mul (.ix (.var 0) (.con (.int 1))) (.ix (.var 1) (.con (.int 1))))) (.nil))))) (.nil)
def n_L_times : Nat := 2
theorem hm_plus : ∀ ds o, m_plus ds = some o → ∃ n, evFn n [false, false] 2 b_plus ds = some o := by
  intro ds o h
  refine ⟨0, ?_⟩
  unfold m_plus at h
  split at h
  case h_2 => cases h
  rename_i a b c d
  split at h
  case isFalse => cases h
  rename_i hc
  cases h
  simp only [okF, Bool.and_eq_true, decide_eq_true_eq] at hc
  obtain ⟨h1, h2, h3, h4⟩ := hc
  unfold evFn b_plus
  simp -implicitDefEqProofs only [evS, evT, evE, evP, evPs, evV, evA, evAnd, evOr, evI, Pv.a0, Pv.a1, Pv.v0, Pv.v1, opd, slotOf, satOp, Pv.two, Pv.one, ob_s, ob_n, sc_int, sc_bl, sc_str, sc_non, bd_ok, bd_exc, thenE_ok, thenE_exc, thenT_ok, thenT_exc, thenA_ok, thenI_ok, fl_nx, fl_ret, fl_exc, fl_bk, fl_ct, fl_nil, evSs_nil, asBl, asInt, un_non, un_bl, un_int, un_str, un_tup, un_lst, un_obj, un_un, fz, fzs, isSc, isScs, isFz, isFzs, isOwn, isOwns, dNeg, dT, tgA, setAll, okS, res, at2, it_tup, it_lst, chnD, lItems, tmps, cpyLoc, cpyTmp, ixTmp, ioPos, outFl, outsOf, fzs_ints, Pv.sto1, Pv.sto2, ownItems, at2_0, at2_1, at3_0, at3_1, at3_2, at4_0, at4_1, at4_2, at4_3, ix_20, ix_21, ix_40, ix_41, ix_42, ix_43, List.length_map, isFzs, d2_add, d2_sub, d2_lt, d2_le, d2_gt, d2_ge, d2_eq, d2_ne, d2_eqs, d2_eqb, d2_isn_non, d2_isn_int, d2_isn_bl, d2_isn_str, d2_isn_tup, d2_isn_lst, d2_notn_non, d2_notn_int, d2_notn_bl, d2_notn_str, d2_notn_tup, d2_notn_lst, d2_mod, d2_fdiv, Int.reduceToNat, Int.reducePow, Int.reduceEq, Int.reduceLT, Int.reduceLE, Int.reduceNeg, Int.reduceMul, Int.reduceAdd, Int.reduceSub, cst0, cst1, cst2, cst3, cst4, cst5, cst6, cst7, cst8, cst9, cst10, cst11, cst12, ne_eq, not_false_eq_true, not_true_eq_false, dF_gcd, dF_lenL, dF_lenT, dF_int, dF_intb, dF_abs, dF_min, dF_max, dI_ii, dI_ib, dI_is, dI_il, dI_it, dI_bi, dI_bb, dI_bs, dI_bl, dI_bt, dI_si, dI_sb, dI_ss, dI_sl, dI_st, dI_li, dI_lb, dI_ls, dI_ll, dI_lt, dI_ti, dI_tb, dI_ts, dI_tl, dI_tt, dI_ni, dI_nb, dI_ns, dI_nl, dI_nt, Option.map_some, List.length_cons, List.length_nil, List.getElem?_cons_zero, List.getElem?_cons_succ, List.getElem?_nil, List.set_cons_zero, List.set_cons_succ, List.set_nil, List.map_cons, List.map_nil, List.cons_append, List.nil_append, List.append_nil, List.replicate, List.getD_cons_zero, List.getD_cons_succ, List.contains_nil, List.contains_cons, Nat.reduceBEq, Bool.or_false, Bool.false_or, Bool.or_self, Bool.or_true, Bool.true_or, List.isEmpty_nil, List.isEmpty_cons, decide_true, decide_false, if_true, if_false, Bool.false_eq_true, Bool.not_true, Bool.not_false, Bool.and_true, Bool.true_and, Bool.and_self, Bool.and_false, Bool.false_and, reduceIte, Nat.zero_add, Nat.reduceAdd, Nat.reduceSub, Nat.reduceLT, Nat.reduceLeDiff, Nat.reduceEqDiff, decide_eq_true_eq, eq_self, Option.some.injEq, reduceCtorEq, Nat.lt_irrefl, evSs_cons, d2_mul h1, d2_mul h2, d2_mul h3, call_lowest (A := .tmp (.int (a * d + c * b))) (B := .tmp (.int (b * d))) rfl rfl h4, frD]
theorem hm_minus : ∀ ds o, m_minus ds = some o → ∃ n, evFn n [false, false] 2 b_minus ds = some o := by
  intro ds o h
  refine ⟨0, ?_⟩
  unfold m_minus at h
  split at h
  case h_2 => cases h
  rename_i a b c d
  split at h
  case isFalse => cases h
  rename_i hc
  cases h
  simp only [okF, Bool.and_eq_true, decide_eq_true_eq] at hc
  obtain ⟨h1, h2, h3, h4⟩ := hc
  unfold evFn b_minus
  simp -implicitDefEqProofs only [evS, evT, evE, evP, evPs, evV, evA, evAnd, evOr, evI, Pv.a0, Pv.a1, Pv.v0, Pv.v1, opd, slotOf, satOp, Pv.two, Pv.one, ob_s, ob_n, sc_int, sc_bl, sc_str, sc_non, bd_ok, bd_exc, thenE_ok, thenE_exc, thenT_ok, thenT_exc, thenA_ok, thenI_ok, fl_nx, fl_ret, fl_exc, fl_bk, fl_ct, fl_nil, evSs_nil, asBl, asInt, un_non, un_bl, un_int, un_str, un_tup, un_lst, un_obj, un_un, fz, fzs, isSc, isScs, isFz, isFzs, isOwn, isOwns, dNeg, dT, tgA, setAll, okS, res, at2, it_tup, it_lst, chnD, lItems, tmps, cpyLoc, cpyTmp, ixTmp, ioPos, outFl, outsOf, fzs_ints, Pv.sto1, Pv.sto2, ownItems, at2_0, at2_1, at3_0, at3_1, at3_2, at4_0, at4_1, at4_2, at4_3, ix_20, ix_21, ix_40, ix_41, ix_42, ix_43, List.length_map, isFzs, d2_add, d2_sub, d2_lt, d2_le, d2_gt, d2_ge, d2_eq, d2_ne, d2_eqs, d2_eqb, d2_isn_non, d2_isn_int, d2_isn_bl, d2_isn_str, d2_isn_tup, d2_isn_lst, d2_notn_non, d2_notn_int, d2_notn_bl, d2_notn_str, d2_notn_tup, d2_notn_lst, d2_mod, d2_fdiv, Int.reduceToNat, Int.reducePow, Int.reduceEq, Int.reduceLT, Int.reduceLE, Int.reduceNeg, Int.reduceMul, Int.reduceAdd, Int.reduceSub, cst0, cst1, cst2, cst3, cst4, cst5, cst6, cst7, cst8, cst9, cst10, cst11, cst12, ne_eq, not_false_eq_true, not_true_eq_false, dF_gcd, dF_lenL, dF_lenT, dF_int, dF_intb, dF_abs, dF_min, dF_max, dI_ii, dI_ib, dI_is, dI_il, dI_it, dI_bi, dI_bb, dI_bs, dI_bl, dI_bt, dI_si, dI_sb, dI_ss, dI_sl, dI_st, dI_li, dI_lb, dI_ls, dI_ll, dI_lt, dI_ti, dI_tb, dI_ts, dI_tl, dI_tt, dI_ni, dI_nb, dI_ns, dI_nl, dI_nt, Option.map_some, List.length_cons, List.length_nil, List.getElem?_cons_zero, List.getElem?_cons_succ, List.getElem?_nil, List.set_cons_zero, List.set_cons_succ, List.set_nil, List.map_cons, List.map_nil, List.cons_append, List.nil_append, List.append_nil, List.replicate, List.getD_cons_zero, List.getD_cons_succ, List.contains_nil, List.contains_cons, Nat.reduceBEq, Bool.or_false, Bool.false_or, Bool.or_self, Bool.or_true, Bool.true_or, List.isEmpty_nil, List.isEmpty_cons, decide_true, decide_false, if_true, if_false, Bool.false_eq_true, Bool.not_true, Bool.not_false, Bool.and_true, Bool.true_and, Bool.and_self, Bool.and_false, Bool.false_and, reduceIte, Nat.zero_add, Nat.reduceAdd, Nat.reduceSub, Nat.reduceLT, Nat.reduceLeDiff, Nat.reduceEqDiff, decide_eq_true_eq, eq_self, Option.some.injEq, reduceCtorEq, Nat.lt_irrefl, evSs_cons, d2_mul h1, d2_mul h2, d2_mul h3, call_lowest (A := .tmp (.int (a * d - c * b))) (B := .tmp (.int (b * d))) rfl rfl h4, frD]
theorem hm_times : ∀ ds o, m_times ds = some o → ∃ n, evFn n [false, false] 2 b_times ds = some o := by
  intro ds o h
  refine ⟨0, ?_⟩
  unfold m_times at h
  split at h
  case h_2 => cases h
  rename_i a b c d
  split at h
  case isFalse => cases h
  rename_i hc
  cases h
  simp only [Bool.and_eq_true, decide_eq_true_eq] at hc
  obtain ⟨h1, h2, h4⟩ := hc
  unfold evFn b_times
  simp -implicitDefEqProofs only [evS, evT, evE, evP, evPs, evV, evA, evAnd, evOr, evI, Pv.a0, Pv.a1, Pv.v0, Pv.v1, opd, slotOf, satOp, Pv.two, Pv.one, ob_s, ob_n, sc_int, sc_bl, sc_str, sc_non, bd_ok, bd_exc, thenE_ok, thenE_exc, thenT_ok, thenT_exc, thenA_ok, thenI_ok, fl_nx, fl_ret, fl_exc, fl_bk, fl_ct, fl_nil, evSs_nil, asBl, asInt, un_non, un_bl, un_int, un_str, un_tup, un_lst, un_obj, un_un, fz, fzs, isSc, isScs, isFz, isFzs, isOwn, isOwns, dNeg, dT, tgA, setAll, okS, res, at2, it_tup, it_lst, chnD, lItems, tmps, cpyLoc, cpyTmp, ixTmp, ioPos, outFl, outsOf, fzs_ints, Pv.sto1, Pv.sto2, ownItems, at2_0, at2_1, at3_0, at3_1, at3_2, at4_0, at4_1, at4_2, at4_3, ix_20, ix_21, ix_40, ix_41, ix_42, ix_43, List.length_map, isFzs, d2_add, d2_sub, d2_lt, d2_le, d2_gt, d2_ge, d2_eq, d2_ne, d2_eqs, d2_eqb, d2_isn_non, d2_isn_int, d2_isn_bl, d2_isn_str, d2_isn_tup, d2_isn_lst, d2_notn_non, d2_notn_int, d2_notn_bl, d2_notn_str, d2_notn_tup, d2_notn_lst, d2_mod, d2_fdiv, Int.reduceToNat, Int.reducePow, Int.reduceEq, Int.reduceLT, Int.reduceLE, Int.reduceNeg, Int.reduceMul, Int.reduceAdd, Int.reduceSub, cst0, cst1, cst2, cst3, cst4, cst5, cst6, cst7, cst8, cst9, cst10, cst11, cst12, ne_eq, not_false_eq_true, not_true_eq_false, dF_gcd, dF_lenL, dF_lenT, dF_int, dF_intb, dF_abs, dF_min, dF_max, dI_ii, dI_ib, dI_is, dI_il, dI_it, dI_bi, dI_bb, dI_bs, dI_bl, dI_bt, dI_si, dI_sb, dI_ss, dI_sl, dI_st, dI_li, dI_lb, dI_ls, dI_ll, dI_lt, dI_ti, dI_tb, dI_ts, dI_tl, dI_tt, dI_ni, dI_nb, dI_ns, dI_nl, dI_nt, Option.map_some, List.length_cons, List.length_nil, List.getElem?_cons_zero, List.getElem?_cons_succ, List.getElem?_nil, List.set_cons_zero, List.set_cons_succ, List.set_nil, List.map_cons, List.map_nil, List.cons_append, List.nil_append, List.append_nil, List.replicate, List.getD_cons_zero, List.getD_cons_succ, List.contains_nil, List.contains_cons, Nat.reduceBEq, Bool.or_false, Bool.false_or, Bool.or_self, Bool.or_true, Bool.true_or, List.isEmpty_nil, List.isEmpty_cons, decide_true, decide_false, if_true, if_false, Bool.false_eq_true, Bool.not_true, Bool.not_false, Bool.and_true, Bool.true_and, Bool.and_self, Bool.and_false, Bool.false_and, reduceIte, Nat.zero_add, Nat.reduceAdd, Nat.reduceSub, Nat.reduceLT, Nat.reduceLeDiff, Nat.reduceEqDiff, decide_eq_true_eq, eq_self, Option.some.injEq, reduceCtorEq, Nat.lt_irrefl, evSs_cons, d2_mul h1, d2_mul h2, call_lowest (A := .tmp (.int (a * c))) (B := .tmp (.int (b * d))) rfl rfl h4, frD]
theorem hm_less : ∀ ds o, m_less ds = some o → ∃ n, evFn n [false, false] 2 b_less ds = some o := by
  intro ds o h
  refine ⟨0, ?_⟩
  unfold m_less at h
  split at h
  case h_2 => cases h
  rename_i a b c d
  split at h
  case isFalse => cases h
  rename_i hc
  cases h
  simp only [Bool.and_eq_true] at hc
  obtain ⟨h1, h2⟩ := hc
  unfold evFn b_less
  simp -implicitDefEqProofs only [evS, evT, evE, evP, evPs, evV, evA, evAnd, evOr, evI, Pv.a0, Pv.a1, Pv.v0, Pv.v1, opd, slotOf, satOp, Pv.two, Pv.one, ob_s, ob_n, sc_int, sc_bl, sc_str, sc_non, bd_ok, bd_exc, thenE_ok, thenE_exc, thenT_ok, thenT_exc, thenA_ok, thenI_ok, fl_nx, fl_ret, fl_exc, fl_bk, fl_ct, fl_nil, evSs_nil, asBl, asInt, un_non, un_bl, un_int, un_str, un_tup, un_lst, un_obj, un_un, fz, fzs, isSc, isScs, isFz, isFzs, isOwn, isOwns, dNeg, dT, tgA, setAll, okS, res, at2, it_tup, it_lst, chnD, lItems, tmps, cpyLoc, cpyTmp, ixTmp, ioPos, outFl, outsOf, fzs_ints, Pv.sto1, Pv.sto2, ownItems, at2_0, at2_1, at3_0, at3_1, at3_2, at4_0, at4_1, at4_2, at4_3, ix_20, ix_21, ix_40, ix_41, ix_42, ix_43, List.length_map, isFzs, d2_add, d2_sub, d2_lt, d2_le, d2_gt, d2_ge, d2_eq, d2_ne, d2_eqs, d2_eqb, d2_isn_non, d2_isn_int, d2_isn_bl, d2_isn_str, d2_isn_tup, d2_isn_lst, d2_notn_non, d2_notn_int, d2_notn_bl, d2_notn_str, d2_notn_tup, d2_notn_lst, d2_mod, d2_fdiv, Int.reduceToNat, Int.reducePow, Int.reduceEq, Int.reduceLT, Int.reduceLE, Int.reduceNeg, Int.reduceMul, Int.reduceAdd, Int.reduceSub, cst0, cst1, cst2, cst3, cst4, cst5, cst6, cst7, cst8, cst9, cst10, cst11, cst12, ne_eq, not_false_eq_true, not_true_eq_false, dF_gcd, dF_lenL, dF_lenT, dF_int, dF_intb, dF_abs, dF_min, dF_max, dI_ii, dI_ib, dI_is, dI_il, dI_it, dI_bi, dI_bb, dI_bs, dI_bl, dI_bt, dI_si, dI_sb, dI_ss, dI_sl, dI_st, dI_li, dI_lb, dI_ls, dI_ll, dI_lt, dI_ti, dI_tb, dI_ts, dI_tl, dI_tt, dI_ni, dI_nb, dI_ns, dI_nl, dI_nt, Option.map_some, List.length_cons, List.length_nil, List.getElem?_cons_zero, List.getElem?_cons_succ, List.getElem?_nil, List.set_cons_zero, List.set_cons_succ, List.set_nil, List.map_cons, List.map_nil, List.cons_append, List.nil_append, List.append_nil, List.replicate, List.getD_cons_zero, List.getD_cons_succ, List.contains_nil, List.contains_cons, Nat.reduceBEq, Bool.or_false, Bool.false_or, Bool.or_self, Bool.or_true, Bool.true_or, List.isEmpty_nil, List.isEmpty_cons, decide_true, decide_false, if_true, if_false, Bool.false_eq_true, Bool.not_true, Bool.not_false, Bool.and_true, Bool.true_and, Bool.and_self, Bool.and_false, Bool.false_and, reduceIte, Nat.zero_add, Nat.reduceAdd, Nat.reduceSub, Nat.reduceLT, Nat.reduceLeDiff, Nat.reduceEqDiff, decide_eq_true_eq, eq_self, Option.some.injEq, reduceCtorEq, Nat.lt_irrefl, evSs_cons, d2_mul h1, d2_mul h2]
theorem hm_L_plus : ∀ ds o, m_plus ds = some o → ∃ n, evFn n [false, false] 2 b_L_plus ds = some o := by
  intro ds o h
  refine ⟨0, ?_⟩
  unfold m_plus at h
  split at h
  case h_2 => cases h
  rename_i a b c d
  split at h
  case isFalse => cases h
  rename_i hc
  cases h
  simp only [okF, Bool.and_eq_true, decide_eq_true_eq] at hc
  obtain ⟨h1, h2, h3, h4⟩ := hc
  unfold evFn b_L_plus
  simp -implicitDefEqProofs only [evS, evT, evE, evP, evPs, evV, evA, evAnd, evOr, evI, Pv.a0, Pv.a1, Pv.v0, Pv.v1, opd, slotOf, satOp, Pv.two, Pv.one, ob_s, ob_n, sc_int, sc_bl, sc_str, sc_non, bd_ok, bd_exc, thenE_ok, thenE_exc, thenT_ok, thenT_exc, thenA_ok, thenI_ok, fl_nx, fl_ret, fl_exc, fl_bk, fl_ct, fl_nil, evSs_nil, asBl, asInt, un_non, un_bl, un_int, un_str, un_tup, un_lst, un_obj, un_un, fz, fzs, isSc, isScs, isFz, isFzs, isOwn, isOwns, dNeg, dT, tgA, setAll, okS, res, at2, it_tup, it_lst, chnD, lItems, tmps, cpyLoc, cpyTmp, ixTmp, ioPos, outFl, outsOf, fzs_ints, Pv.sto1, Pv.sto2, ownItems, at2_0, at2_1, at3_0, at3_1, at3_2, at4_0, at4_1, at4_2, at4_3, ix_20, ix_21, ix_40, ix_41, ix_42, ix_43, List.length_map, isFzs, d2_add, d2_sub, d2_lt, d2_le, d2_gt, d2_ge, d2_eq, d2_ne, d2_eqs, d2_eqb, d2_isn_non, d2_isn_int, d2_isn_bl, d2_isn_str, d2_isn_tup, d2_isn_lst, d2_notn_non, d2_notn_int, d2_notn_bl, d2_notn_str, d2_notn_tup, d2_notn_lst, d2_mod, d2_fdiv, Int.reduceToNat, Int.reducePow, Int.reduceEq, Int.reduceLT, Int.reduceLE, Int.reduceNeg, Int.reduceMul, Int.reduceAdd, Int.reduceSub, cst0, cst1, cst2, cst3, cst4, cst5, cst6, cst7, cst8, cst9, cst10, cst11, cst12, ne_eq, not_false_eq_true, not_true_eq_false, dF_gcd, dF_lenL, dF_lenT, dF_int, dF_intb, dF_abs, dF_min, dF_max, dI_ii, dI_ib, dI_is, dI_il, dI_it, dI_bi, dI_bb, dI_bs, dI_bl, dI_bt, dI_si, dI_sb, dI_ss, dI_sl, dI_st, dI_li, dI_lb, dI_ls, dI_ll, dI_lt, dI_ti, dI_tb, dI_ts, dI_tl, dI_tt, dI_ni, dI_nb, dI_ns, dI_nl, dI_nt, Option.map_some, List.length_cons, List.length_nil, List.getElem?_cons_zero, List.getElem?_cons_succ, List.getElem?_nil, List.set_cons_zero, List.set_cons_succ, List.set_nil, List.map_cons, List.map_nil, List.cons_append, List.nil_append, List.append_nil, List.replicate, List.getD_cons_zero, List.getD_cons_succ, List.contains_nil, List.contains_cons, Nat.reduceBEq, Bool.or_false, Bool.false_or, Bool.or_self, Bool.or_true, Bool.true_or, List.isEmpty_nil, List.isEmpty_cons, decide_true, decide_false, if_true, if_false, Bool.false_eq_true, Bool.not_true, Bool.not_false, Bool.and_true, Bool.true_and, Bool.and_self, Bool.and_false, Bool.false_and, reduceIte, Nat.zero_add, Nat.reduceAdd, Nat.reduceSub, Nat.reduceLT, Nat.reduceLeDiff, Nat.reduceEqDiff, decide_eq_true_eq, eq_self, Option.some.injEq, reduceCtorEq, Nat.lt_irrefl, evSs_cons, d2_mul h1, d2_mul h2, d2_mul h3, call_L_low (A := .tmp (.int (a * d + c * b))) (B := .tmp (.int (b * d))) rfl rfl h4, frD]
theorem hm_L_minus : ∀ ds o, m_minus ds = some o → ∃ n, evFn n [false, false] 2 b_L_minus ds = some o := by
  intro ds o h
  refine ⟨0, ?_⟩
  unfold m_minus at h
  split at h
  case h_2 => cases h
  rename_i a b c d
  split at h
  case isFalse => cases h
  rename_i hc
  cases h
  simp only [okF, Bool.and_eq_true, decide_eq_true_eq] at hc
  obtain ⟨h1, h2, h3, h4⟩ := hc
  unfold evFn b_L_minus
  simp -implicitDefEqProofs only [evS, evT, evE, evP, evPs, evV, evA, evAnd, evOr, evI, Pv.a0, Pv.a1, Pv.v0, Pv.v1, opd, slotOf, satOp, Pv.two, Pv.one, ob_s, ob_n, sc_int, sc_bl, sc_str, sc_non, bd_ok, bd_exc, thenE_ok, thenE_exc, thenT_ok, thenT_exc, thenA_ok, thenI_ok, fl_nx, fl_ret, fl_exc, fl_bk, fl_ct, fl_nil, evSs_nil, asBl, asInt, un_non, un_bl, un_int, un_str, un_tup, un_lst, un_obj, un_un, fz, fzs, isSc, isScs, isFz, isFzs, isOwn, isOwns, dNeg, dT, tgA, setAll, okS, res, at2, it_tup, it_lst, chnD, lItems, tmps, cpyLoc, cpyTmp, ixTmp, ioPos, outFl, outsOf, fzs_ints, Pv.sto1, Pv.sto2, ownItems, at2_0, at2_1, at3_0, at3_1, at3_2, at4_0, at4_1, at4_2, at4_3, ix_20, ix_21, ix_40, ix_41, ix_42, ix_43, List.length_map, isFzs, d2_add, d2_sub, d2_lt, d2_le, d2_gt, d2_ge, d2_eq, d2_ne, d2_eqs, d2_eqb, d2_isn_non, d2_isn_int, d2_isn_bl, d2_isn_str, d2_isn_tup, d2_isn_lst, d2_notn_non, d2_notn_int, d2_notn_bl, d2_notn_str, d2_notn_tup, d2_notn_lst, d2_mod, d2_fdiv, Int.reduceToNat, Int.reducePow, Int.reduceEq, Int.reduceLT, Int.reduceLE, Int.reduceNeg, Int.reduceMul, Int.reduceAdd, Int.reduceSub, cst0, cst1, cst2, cst3, cst4, cst5, cst6, cst7, cst8, cst9, cst10, cst11, cst12, ne_eq, not_false_eq_true, not_true_eq_false, dF_gcd, dF_lenL, dF_lenT, dF_int, dF_intb, dF_abs, dF_min, dF_max, dI_ii, dI_ib, dI_is, dI_il, dI_it, dI_bi, dI_bb, dI_bs, dI_bl, dI_bt, dI_si, dI_sb, dI_ss, dI_sl, dI_st, dI_li, dI_lb, dI_ls, dI_ll, dI_lt, dI_ti, dI_tb, dI_ts, dI_tl, dI_tt, dI_ni, dI_nb, dI_ns, dI_nl, dI_nt, Option.map_some, List.length_cons, List.length_nil, List.getElem?_cons_zero, List.getElem?_cons_succ, List.getElem?_nil, List.set_cons_zero, List.set_cons_succ, List.set_nil, List.map_cons, List.map_nil, List.cons_append, List.nil_append, List.append_nil, List.replicate, List.getD_cons_zero, List.getD_cons_succ, List.contains_nil, List.contains_cons, Nat.reduceBEq, Bool.or_false, Bool.false_or, Bool.or_self, Bool.or_true, Bool.true_or, List.isEmpty_nil, List.isEmpty_cons, decide_true, decide_false, if_true, if_false, Bool.false_eq_true, Bool.not_true, Bool.not_false, Bool.and_true, Bool.true_and, Bool.and_self, Bool.and_false, Bool.false_and, reduceIte, Nat.zero_add, Nat.reduceAdd, Nat.reduceSub, Nat.reduceLT, Nat.reduceLeDiff, Nat.reduceEqDiff, decide_eq_true_eq, eq_self, Option.some.injEq, reduceCtorEq, Nat.lt_irrefl, evSs_cons, d2_mul h1, d2_mul h2, d2_mul h3, call_L_low (A := .tmp (.int (a * d - c * b))) (B := .tmp (.int (b * d))) rfl rfl h4, frD]
theorem hm_L_times : ∀ ds o, m_times ds = some o → ∃ n, evFn n [false, false] 2 b_L_times ds = some o := by
  intro ds o h
  refine ⟨0, ?_⟩
  unfold m_times at h
  split at h
  case h_2 => cases h
  rename_i a b c d
  split at h
  case isFalse => cases h
  rename_i hc
  cases h
  simp only [Bool.and_eq_true, decide_eq_true_eq] at hc
  obtain ⟨h1, h2, h4⟩ := hc
  unfold evFn b_L_times
  simp -implicitDefEqProofs only [evS, evT, evE, evP, evPs, evV, evA, evAnd, evOr, evI, Pv.a0, Pv.a1, Pv.v0, Pv.v1, opd, slotOf, satOp, Pv.two, Pv.one, ob_s, ob_n, sc_int, sc_bl, sc_str, sc_non, bd_ok, bd_exc, thenE_ok, thenE_exc, thenT_ok, thenT_exc, thenA_ok, thenI_ok, fl_nx, fl_ret, fl_exc, fl_bk, fl_ct, fl_nil, evSs_nil, asBl, asInt, un_non, un_bl, un_int, un_str, un_tup, un_lst, un_obj, un_un, fz, fzs, isSc, isScs, isFz, isFzs, isOwn, isOwns, dNeg, dT, tgA, setAll, okS, res, at2, it_tup, it_lst, chnD, lItems, tmps, cpyLoc, cpyTmp, ixTmp, ioPos, outFl, outsOf, fzs_ints, Pv.sto1, Pv.sto2, ownItems, at2_0, at2_1, at3_0, at3_1, at3_2, at4_0, at4_1, at4_2, at4_3, ix_20, ix_21, ix_40, ix_41, ix_42, ix_43, List.length_map, isFzs, d2_add, d2_sub, d2_lt, d2_le, d2_gt, d2_ge, d2_eq, d2_ne, d2_eqs, d2_eqb, d2_isn_non, d2_isn_int, d2_isn_bl, d2_isn_str, d2_isn_tup, d2_isn_lst, d2_notn_non, d2_notn_int, d2_notn_bl, d2_notn_str, d2_notn_tup, d2_notn_lst, d2_mod, d2_fdiv, Int.reduceToNat, Int.reducePow, Int.reduceEq, Int.reduceLT, Int.reduceLE, Int.reduceNeg, Int.reduceMul, Int.reduceAdd, Int.reduceSub, cst0, cst1, cst2, cst3, cst4, cst5, cst6, cst7, cst8, cst9, cst10, cst11, cst12, ne_eq, not_false_eq_true, not_true_eq_false, dF_gcd, dF_lenL, dF_lenT, dF_int, dF_intb, dF_abs, dF_min, dF_max, dI_ii, dI_ib, dI_is, dI_il, dI_it, dI_bi, dI_bb, dI_bs, dI_bl, dI_bt, dI_si, dI_sb, dI_ss, dI_sl, dI_st, dI_li, dI_lb, dI_ls, dI_ll, dI_lt, dI_ti, dI_tb, dI_ts, dI_tl, dI_tt, dI_ni, dI_nb, dI_ns, dI_nl, dI_nt, Option.map_some, List.length_cons, List.length_nil, List.getElem?_cons_zero, List.getElem?_cons_succ, List.getElem?_nil, List.set_cons_zero, List.set_cons_succ, List.set_nil, List.map_cons, List.map_nil, List.cons_append, List.nil_append, List.append_nil, List.replicate, List.getD_cons_zero, List.getD_cons_succ, List.contains_nil, List.contains_cons, Nat.reduceBEq, Bool.or_false, Bool.false_or, Bool.or_self, Bool.or_true, Bool.true_or, List.isEmpty_nil, List.isEmpty_cons, decide_true, decide_false, if_true, if_false, Bool.false_eq_true, Bool.not_true, Bool.not_false, Bool.and_true, Bool.true_and, Bool.and_self, Bool.and_false, Bool.false_and, reduceIte, Nat.zero_add, Nat.reduceAdd, Nat.reduceSub, Nat.reduceLT, Nat.reduceLeDiff, Nat.reduceEqDiff, decide_eq_true_eq, eq_self, Option.some.injEq, reduceCtorEq, Nat.lt_irrefl, evSs_cons, d2_mul h1, d2_mul h2, call_L_low (A := .tmp (.int (a * c))) (B := .tmp (.int (b * d))) rfl rfl h4, frD]
/-! ### bounds -/
/-- a fraction with less than n bits above and below -/
def FB (n : Nat) (p : Int × Int) : Prop := p.1.natAbs < 2 ^ n ∧ 1 ≤ p.2 ∧ p.2.natAbs < 2 ^ n
theorem lowI_pos {a b : Int} (hb : 1 ≤ b) : lowI a b = (a / (Nat.gcd a.natAbs b.natAbs : Nat), b / (Nat.gcd a.natAbs b.natAbs : Nat)) := by
  unfold lowI
  rw [if_neg (by omega), Int.fdiv_eq_ediv_of_nonneg _ (by omega), Int.fdiv_eq_ediv_of_nonneg _ (by omega)]
theorem lowI_fb {n : Nat} {a b : Int} (ha : a.natAbs < 2 ^ n) (hb : 1 ≤ b) (hb2 : b.natAbs < 2 ^ n) : FB n (lowI a b) := by
  rw [lowI_pos hb]
  refine ⟨Nat.lt_of_le_of_lt (Int.natAbs_ediv_le_natAbs _ _) ha, ?_, Nat.lt_of_le_of_lt (Int.natAbs_ediv_le_natAbs _ _) hb2⟩
  show 1 ≤ b / _
  have h1 : ((Nat.gcd a.natAbs b.natAbs : Nat) : Int) ∣ b := Int.ofNat_dvd_left.mpr (Nat.gcd_dvd_right _ _)
  have h2 : 0 < ((Nat.gcd a.natAbs b.natAbs : Nat) : Int) := Int.ofNat_lt.mpr (Nat.gcd_pos_of_pos_right _ (by omega))
  exact Int.le_ediv_of_mul_le h2 (by rw [Int.one_mul]; exact Int.le_of_dvd (by omega) h1)
theorem mul_n {n : Nat} {a b : Int} (hn : 0 < n) (hn2 : n ≤ 1000000) (ha : a.natAbs < 2 ^ n) (hb : b.natAbs < 2 ^ n) : mulOk a b = true := mul_of n n ha hb (by omega) hn
theorem okF_of {n : Nat} {p q : Int × Int} (hn : 0 < n) (hn2 : n ≤ 1000000) (hp : FB n p) (hq : FB n q) : okF p.1 p.2 q.1 q.2 = true := by
  have h : p.2 * q.2 ≠ 0 := Int.mul_ne_zero (by have := hp.2.1; omega) (by have := hq.2.1; omega)
  simp only [okF, mul_n hn hn2 hp.1 hq.2.2, mul_n hn hn2 hq.1 hp.2.2, mul_n hn hn2 hp.2.2 hq.2.2, h, Bool.true_and, decide_not, decide_false, Bool.not_false]
theorem plus_eq {n : Nat} {p q : Int × Int} (hn : 0 < n) (hn2 : n ≤ 1000000) (hp : FB n p) (hq : FB n q) : m_plus [frD p, frD q] = some (.ret (frD (lowI (p.1 * q.2 + q.1 * p.2) (p.2 * q.2))) []) := by
  simp only [m_plus, frD, okF_of hn hn2 hp hq, if_true]
theorem minus_eq {n : Nat} {p q : Int × Int} (hn : 0 < n) (hn2 : n ≤ 1000000) (hp : FB n p) (hq : FB n q) : m_minus [frD p, frD q] = some (.ret (frD (lowI (p.1 * q.2 - q.1 * p.2) (p.2 * q.2))) []) := by
  simp only [m_minus, frD, okF_of hn hn2 hp hq, if_true]
theorem times_eq {n : Nat} {p q : Int × Int} (hn : 0 < n) (hn2 : n ≤ 1000000) (hp : FB n p) (hq : FB n q) : m_times [frD p, frD q] = some (.ret (frD (lowI (p.1 * q.1) (p.2 * q.2))) []) := by
  have h : p.2 * q.2 ≠ 0 := Int.mul_ne_zero (by have := hp.2.1; omega) (by have := hq.2.1; omega)
  simp only [m_times, frD, mul_n hn hn2 hp.1 hq.1, mul_n hn hn2 hp.2.2 hq.2.2, h, if_true, Bool.true_and, decide_not, decide_false, Bool.not_false]
theorem less_eq {n : Nat} {p q : Int × Int} (hn : 0 < n) (hn2 : n ≤ 1000000) (hp : FB n p) (hq : FB n q) : m_less [frD p, frD q] = some (.ret (.bl (decide (p.1 * q.2 < q.1 * p.2))) []) := by
  simp only [m_less, frD, mul_n hn hn2 hp.1 hq.2.2, mul_n hn hn2 hq.1 hp.2.2, if_true, Bool.and_self]
end Pv

set_option maxHeartbeats 4000000
namespace Pv
open PySem
/-! ### fractions in lowest terms: the plain law -/
theorem low_spec {a b : Int} (hb : 1 ≤ b) : ∃ g : Int, 1 ≤ g ∧ a = g * (lowI a b).1 ∧ b = g * (lowI a b).2 ∧ 1 ≤ (lowI a b).2 ∧ Nat.Coprime (lowI a b).1.natAbs (lowI a b).2.natAbs := by
  rw [lowI_pos hb]
  have h0 : 0 < Nat.gcd a.natAbs b.natAbs := Nat.gcd_pos_of_pos_right _ (by omega)
  have h1 : ((Nat.gcd a.natAbs b.natAbs : Nat) : Int) ∣ b := Int.ofNat_dvd_left.mpr (Nat.gcd_dvd_right _ _)
  have h2 : ((Nat.gcd a.natAbs b.natAbs : Nat) : Int) ∣ a := Int.ofNat_dvd_left.mpr (Nat.gcd_dvd_left _ _)
  have hg : (1 : Int) ≤ (Nat.gcd a.natAbs b.natAbs : Nat) := by omega
  refine ⟨(Nat.gcd a.natAbs b.natAbs : Nat), hg, (Int.mul_ediv_cancel' h2).symm, (Int.mul_ediv_cancel' h1).symm, ?_, ?_⟩
  · exact Int.le_ediv_of_mul_le (by omega) (by rw [Int.one_mul]; exact Int.le_of_dvd (by omega) h1)
  · exact Int.gcd_ediv_gcd_ediv_gcd (i := a) (j := b) h0
theorem low_uniq {a b c d : Int} (hb : 1 ≤ b) (hd : 1 ≤ d) (h1 : Nat.Coprime a.natAbs b.natAbs) (h2 : Nat.Coprime c.natAbs d.natAbs) (h : a * d = c * b) : a = c ∧ b = d := by
  have hn : a.natAbs * d.natAbs = c.natAbs * b.natAbs := by rw [← Int.natAbs_mul, h, Int.natAbs_mul]
  have e1 : b.natAbs ∣ d.natAbs := (Nat.Coprime.symm h1).dvd_of_dvd_mul_left (hn ▸ Nat.dvd_mul_left _ _)
  have e2 : d.natAbs ∣ b.natAbs := (Nat.Coprime.symm h2).dvd_of_dvd_mul_left (hn ▸ Nat.dvd_mul_left _ _)
  have e3 := Nat.dvd_antisymm e1 e2
  have e4 : b = d := by omega
  subst e4
  exact ⟨Int.eq_of_mul_eq_mul_right (by omega) h, rfl⟩
theorem lowI_eq {a b c d : Int} (hb : 1 ≤ b) (hd : 1 ≤ d) (h : a * d = c * b) : lowI a b = lowI c d := by
  obtain ⟨g, hg, ea, eb, p1, c1⟩ := low_spec (a := a) hb
  obtain ⟨k, hk, ec, ed, p2, c2⟩ := low_spec (a := c) hd
  generalize lowI a b = x at *
  generalize lowI c d = y at *
  have key : x.1 * y.2 = y.1 * x.2 := by
    have e : (g * k) * (x.1 * y.2) = (g * k) * (y.1 * x.2) := by
      calc (g * k) * (x.1 * y.2) = (g * x.1) * (k * y.2) := by ac_rfl
        _ = (k * y.1) * (g * x.2) := by rw [← ea, ← ed, ← ec, ← eb]; exact h
        _ = (g * k) * (y.1 * x.2) := by ac_rfl
    have ne : g * k ≠ 0 := Int.mul_ne_zero (by omega) (by omega)
    exact Int.eq_of_mul_eq_mul_left ne e
  obtain ⟨e1, e2⟩ := low_uniq p1 p2 c1 c2 key
  exact Prod.ext e1 e2
theorem lowI_cross {a b : Int} (hb : 1 ≤ b) : (lowI a b).1 * b = a * (lowI a b).2 := by
  obtain ⟨g, hg, ea, eb, p1, c1⟩ := low_spec (a := a) hb
  generalize lowI a b = x at *
  rw [eb, ea]
  ac_rfl
theorem lowI_self {p : Int × Int} (hp : 1 ≤ p.2) (hc : Nat.Coprime p.1.natAbs p.2.natAbs) : lowI p.1 p.2 = p := by
  rw [lowI_pos hp]
  have e : Nat.gcd p.1.natAbs p.2.natAbs = 1 := hc
  rw [e]
  simp
/-- a product of two, each in lowest terms or not -/
theorem lowI_mul {a b c d : Int} (hb : 1 ≤ b) (hd : 1 ≤ d) : lowI ((lowI a b).1 * (lowI c d).1) ((lowI a b).2 * (lowI c d).2) = lowI (a * c) (b * d) := by
  obtain ⟨g, hg, ea, eb, p1, c1⟩ := low_spec (a := a) hb
  obtain ⟨k, hk, ec, ed, p2, c2⟩ := low_spec (a := c) hd
  have pos : ∀ x y : Int, 1 ≤ x → 1 ≤ y → 1 ≤ x * y := fun x y hx hy => by
    have := Int.mul_le_mul hx hy (by decide) (by omega)
    simpa using this
  refine lowI_eq (pos _ _ p1 p2) (pos _ _ hb hd) ?_
  generalize lowI a b = x at *
  generalize lowI c d = y at *
  rw [eb, ed, ea, ec]
  ac_rfl
theorem mul_pos1 {x y : Int} (hx : 1 ≤ x) (hy : 1 ≤ y) : 1 ≤ x * y := by
  have := Int.mul_le_mul hx hy (by decide) (by omega)
  simpa using this
/-! ### the factor -/
def tp (r s : Int) : Nat → Int
  | 0 => 1
  | n + 1 => tp r s n * (s + n + r)
def bp (s : Int) : Nat → Int
  | 0 => 1
  | n + 1 => bp s n * (s + n)
def qp (x : Int) : Nat → Int
  | 0 => 1
  | k + 1 => qp x k * (x - (k + 1 : Nat))
theorem bp_pos {s : Int} (hs : 1 ≤ s) : ∀ n, 1 ≤ bp s n
  | 0 => Int.le_refl 1
  | n + 1 => mul_pos1 (bp_pos hs n) (by omega)
theorem tp_zero (s : Int) : ∀ n, tp 0 s n = bp s n
  | 0 => rfl
  | n + 1 => by simp only [tp, bp, tp_zero s n, Int.add_zero]
theorem tp_one (s : Int) : ∀ n, tp 1 s n * s = (s + n) * bp s n
  | 0 => by simp [tp, bp]
  | n + 1 => by
    simp only [tp, bp]
    have ih := tp_one s n
    calc tp 1 s n * (s + n + 1) * s = (s + n + 1) * (tp 1 s n * s) := by ac_rfl
      _ = (s + n + 1) * ((s + n) * bp s n) := by rw [ih]
      _ = (s + ((n + 1 : Nat) : Int)) * (bp s n * (s + n)) := by
        have : s + ((n + 1 : Nat) : Int) = s + n + 1 := by omega
        rw [this]; ac_rfl
theorem qp_step (x : Int) : ∀ k : Nat, (x - k) * qp (x + 1) k = x * qp x k
  | 0 => by simp [qp]
  | k + 1 => by
    simp only [qp]
    have ih := qp_step x k
    have e1 : x + 1 - ((k + 1 : Nat) : Int) = x - k := by omega
    rw [e1]
    calc (x - ((k + 1 : Nat) : Int)) * (qp (x + 1) k * (x - k)) = (x - ((k + 1 : Nat) : Int)) * ((x - k) * qp (x + 1) k) := by ac_rfl
      _ = (x - ((k + 1 : Nat) : Int)) * (x * qp x k) := by rw [ih]
      _ = x * (qp x k * (x - ((k + 1 : Nat) : Int))) := by ac_rfl
theorem tp_qp (s : Int) (k : Nat) : ∀ n : Nat, tp (-(k : Int)) s n * qp (s + n) k = qp s k * bp s n
  | 0 => by simp [tp, bp]
  | n + 1 => by
    simp only [tp, bp]
    have ih := tp_qp s k n
    have e := qp_step (s + n) k
    have e1 : s + ((n + 1 : Nat) : Int) = s + n + 1 := by omega
    have e2 : s + (n : Int) + -(k : Int) = s + n - k := by omega
    rw [e1, e2]
    calc tp (-(k : Int)) s n * (s + n - k) * qp (s + n + 1) k = tp (-(k : Int)) s n * ((s + n - k) * qp (s + n + 1) k) := by ac_rfl
      _ = tp (-(k : Int)) s n * ((s + n) * qp (s + n) k) := by rw [e]
      _ = (s + n) * (tp (-(k : Int)) s n * qp (s + n) k) := by ac_rfl
      _ = (s + n) * (qp s k * bp s n) := by rw [ih]
      _ = qp s k * (bp s n * (s + n)) := by ac_rfl
theorem qp_pos (x : Int) : ∀ k : Nat, (k : Int) < x → 1 ≤ qp x k
  | 0, _ => Int.le_refl 1
  | k + 1, h => mul_pos1 (qp_pos x k (by omega)) (by omega)
theorem tp_vanish {r s : Int} {j : Nat} (h : s + j + r = 0) : ∀ n : Nat, j < n → tp r s n = 0
  | n + 1, hn => by
    simp only [tp]
    by_cases e : j = n
    · subst e
      rw [h, Int.mul_zero]
    · rw [tp_vanish h n (by omega), Int.zero_mul]
def facI (r s : Int) (n : Nat) : Int × Int := lowI (tp r s n) (bp s n)
/-- what the program reckons -/
theorem fac_up {r s : Int} {n : Nat} (hr : r = 0 ∨ r = 1) (hs : 1 ≤ s) : lowI (s + r * n) s = facI r s n := by
  refine lowI_eq hs (bp_pos hs n) ?_
  rcases hr with rfl | rfl
  · rw [Int.zero_mul, Int.add_zero, tp_zero]; ac_rfl
  · rw [Int.one_mul, tp_one]
theorem fac_far {s : Int} {k n : Nat} (hs : (k : Int) < s) : lowI (qp s k) (qp (s + n) k) = facI (-(k : Int)) s n := by
  refine lowI_eq (qp_pos _ k (by omega)) (bp_pos (by omega) n) ?_
  rw [← tp_qp]
theorem fac_zero {s : Int} {k n : Nat} (h1 : 1 ≤ s) (h2 : s ≤ k) (h3 : (k : Int) < s + n) : lowI 0 1 = facI (-(k : Int)) s n := by
  refine lowI_eq (by decide) (bp_pos h1 n) ?_
  rw [tp_vanish (j := ((k : Int) - s).toNat) (by omega) n (by omega)]
  simp
theorem fac_step {r s : Int} {n : Nat} (hs : 1 ≤ s) : lowI ((facI r s n).1 * (lowI (s + n + r) (s + n)).1) ((facI r s n).2 * (lowI (s + n + r) (s + n)).2) = facI r s (n + 1) := by
  unfold facI
  rw [lowI_mul (bp_pos hs n) (by omega)]
  rfl
end Pv

set_option maxHeartbeats 4000000
namespace Pv
open PySem
/-! ### integers between bounds -/
/-- what may be looked at by its type -/
def ask1 (d : D) : Bool := (tyName d).isSome && isFz d
theorem ask1_un {d : D} (h : ask1 d = true) : isUn d = false := by cases d <;> first | rfl | (simp [ask1, tyName] at h)
theorem ask1_fz {d : D} (h : ask1 d = true) : fz d = d := fz_id d (by simp only [ask1, Bool.and_eq_true] at h; exact h.2)
def inB (d : D) (lo hi : Int) : Bool := match d with
  | .int i => decide (lo ≤ i) && decide (i ≤ hi)
  | _ => false
def xBound (nm : Str) : Exc := ⟨"InvalidBound", ["name"], [.str nm]⟩
def m_check_between : List D → Option Out
  | [d, .str nm, .int lo, .int hi] => if ask1 d then some (if inB d lo hi then .ret d [] else .exc (xBound nm)) else none
  | _ => none
def F_check_between : Fn := ⟨[false, false, false, false], m_check_between⟩
def b_check_between : Ss := .cons (.ite (.lor (.cons (.lnot (.call "is_whole" F_is_whole (.cons (.var 0) (.nil)))) (.cons (.pk (.op2 .lt (.var 0) (.var 2))) (.cons (.pk (.op2 .gt (.var 0) (.var 3))) (.nil))))) (.cons (.raise "InvalidBound" ["name"] (.cons (.var 1) (.nil))) (.nil)) (.nil)) (.cons (.ret (.var 0)) (.nil))
def n_check_between : Nat := 4
theorem iw_loc {d : D} {rs : List D} {s : Nat} (h : rs[s]? = some d) (ha : ask1 d = true) : callD F_is_whole [.loc s] rs = some (.ok (.bl (isIntD d)) rs) :=
  iswhole_res (by rw [res_loc h, ask1_fz ha]) (by simp only [ask1, Bool.and_eq_true] at ha; exact ha.1)
theorem hm_check_between : ∀ ds o, m_check_between ds = some o → ∃ n, evFn n [false, false, false, false] 4 b_check_between ds = some o := by
  intro ds o h
  refine ⟨0, ?_⟩
  unfold m_check_between at h
  split at h
  case h_2 => cases h
  rename_i d nm lo hi
  split at h
  case isFalse => cases h
  rename_i ha
  cases h
  have hu := ask1_un ha
  have hz := ask1_fz ha
  have e1 := iw_loc (rs := [d, .str nm, .int lo, .int hi]) (s := 0) rfl ha
  unfold evFn b_check_between
  by_cases hi' : isIntD d = true
  · obtain ⟨i, rfl⟩ : ∃ i, d = .int i := by cases d <;> first | exact ⟨_, rfl⟩ | (simp [isIntD] at hi')
    by_cases c1 : i < lo
    · have c3 : ¬ lo ≤ i := by omega
      simp -implicitDefEqProofs only [evS, evT, evE, evP, evPs, evV, evA, evAnd, evOr, evI, Pv.a0, Pv.a1, Pv.v0, Pv.v1, opd, slotOf, satOp, Pv.two, Pv.one, ob_s, ob_n, sc_int, sc_bl, sc_str, sc_non, bd_ok, bd_exc, thenE_ok, thenE_exc, thenT_ok, thenT_exc, thenA_ok, thenI_ok, fl_nx, fl_ret, fl_exc, fl_bk, fl_ct, fl_nil, evSs_nil, asBl, asInt, un_non, un_bl, un_int, un_str, un_tup, un_lst, un_obj, un_un, fz, fzs, isSc, isScs, isFz, isFzs, isOwn, isOwns, dNeg, dT, tgA, setAll, okS, res, at2, it_tup, it_lst, chnD, lItems, tmps, cpyLoc, cpyTmp, ixTmp, ioPos, outFl, outsOf, fzs_ints, Pv.sto1, Pv.sto2, ownItems, at2_0, at2_1, at3_0, at3_1, at3_2, at4_0, at4_1, at4_2, at4_3, ix_20, ix_21, ix_40, ix_41, ix_42, ix_43, List.length_map, isFzs, d2_add, d2_sub, d2_lt, d2_le, d2_gt, d2_ge, d2_eq, d2_ne, d2_eqs, d2_eqb, d2_isn_non, d2_isn_int, d2_isn_bl, d2_isn_str, d2_isn_tup, d2_isn_lst, d2_notn_non, d2_notn_int, d2_notn_bl, d2_notn_str, d2_notn_tup, d2_notn_lst, d2_mod, d2_fdiv, Int.reduceToNat, Int.reducePow, Int.reduceEq, Int.reduceLT, Int.reduceLE, Int.reduceNeg, Int.reduceMul, Int.reduceAdd, Int.reduceSub, cst0, cst1, cst2, cst3, cst4, cst5, cst6, cst7, cst8, cst9, cst10, cst11, cst12, ne_eq, not_false_eq_true, not_true_eq_false, dF_gcd, dF_lenL, dF_lenT, dF_int, dF_intb, dF_abs, dF_min, dF_max, dI_ii, dI_ib, dI_is, dI_il, dI_it, dI_bi, dI_bb, dI_bs, dI_bl, dI_bt, dI_si, dI_sb, dI_ss, dI_sl, dI_st, dI_li, dI_lb, dI_ls, dI_ll, dI_lt, dI_ti, dI_tb, dI_ts, dI_tl, dI_tt, dI_ni, dI_nb, dI_ns, dI_nl, dI_nt, Option.map_some, List.length_cons, List.length_nil, List.getElem?_cons_zero, List.getElem?_cons_succ, List.getElem?_nil, List.set_cons_zero, List.set_cons_succ, List.set_nil, List.map_cons, List.map_nil, List.cons_append, List.nil_append, List.append_nil, List.replicate, List.getD_cons_zero, List.getD_cons_succ, List.contains_nil, List.contains_cons, Nat.reduceBEq, Bool.or_false, Bool.false_or, Bool.or_self, Bool.or_true, Bool.true_or, List.isEmpty_nil, List.isEmpty_cons, decide_true, decide_false, if_true, if_false, Bool.false_eq_true, Bool.not_true, Bool.not_false, Bool.and_true, Bool.true_and, Bool.and_self, Bool.and_false, Bool.false_and, reduceIte, Nat.zero_add, Nat.reduceAdd, Nat.reduceSub, Nat.reduceLT, Nat.reduceLeDiff, Nat.reduceEqDiff, decide_eq_true_eq, eq_self, Option.some.injEq, reduceCtorEq, Nat.lt_irrefl, evSs_cons, e1, isIntD, c1, inB, c3, xBound]
    · have c3 : lo ≤ i := by omega
      by_cases c2 : hi < i
      · have c4 : ¬ i ≤ hi := by omega
        simp -implicitDefEqProofs only [evS, evT, evE, evP, evPs, evV, evA, evAnd, evOr, evI, Pv.a0, Pv.a1, Pv.v0, Pv.v1, opd, slotOf, satOp, Pv.two, Pv.one, ob_s, ob_n, sc_int, sc_bl, sc_str, sc_non, bd_ok, bd_exc, thenE_ok, thenE_exc, thenT_ok, thenT_exc, thenA_ok, thenI_ok, fl_nx, fl_ret, fl_exc, fl_bk, fl_ct, fl_nil, evSs_nil, asBl, asInt, un_non, un_bl, un_int, un_str, un_tup, un_lst, un_obj, un_un, fz, fzs, isSc, isScs, isFz, isFzs, isOwn, isOwns, dNeg, dT, tgA, setAll, okS, res, at2, it_tup, it_lst, chnD, lItems, tmps, cpyLoc, cpyTmp, ixTmp, ioPos, outFl, outsOf, fzs_ints, Pv.sto1, Pv.sto2, ownItems, at2_0, at2_1, at3_0, at3_1, at3_2, at4_0, at4_1, at4_2, at4_3, ix_20, ix_21, ix_40, ix_41, ix_42, ix_43, List.length_map, isFzs, d2_add, d2_sub, d2_lt, d2_le, d2_gt, d2_ge, d2_eq, d2_ne, d2_eqs, d2_eqb, d2_isn_non, d2_isn_int, d2_isn_bl, d2_isn_str, d2_isn_tup, d2_isn_lst, d2_notn_non, d2_notn_int, d2_notn_bl, d2_notn_str, d2_notn_tup, d2_notn_lst, d2_mod, d2_fdiv, Int.reduceToNat, Int.reducePow, Int.reduceEq, Int.reduceLT, Int.reduceLE, Int.reduceNeg, Int.reduceMul, Int.reduceAdd, Int.reduceSub, cst0, cst1, cst2, cst3, cst4, cst5, cst6, cst7, cst8, cst9, cst10, cst11, cst12, ne_eq, not_false_eq_true, not_true_eq_false, dF_gcd, dF_lenL, dF_lenT, dF_int, dF_intb, dF_abs, dF_min, dF_max, dI_ii, dI_ib, dI_is, dI_il, dI_it, dI_bi, dI_bb, dI_bs, dI_bl, dI_bt, dI_si, dI_sb, dI_ss, dI_sl, dI_st, dI_li, dI_lb, dI_ls, dI_ll, dI_lt, dI_ti, dI_tb, dI_ts, dI_tl, dI_tt, dI_ni, dI_nb, dI_ns, dI_nl, dI_nt, Option.map_some, List.length_cons, List.length_nil, List.getElem?_cons_zero, List.getElem?_cons_succ, List.getElem?_nil, List.set_cons_zero, List.set_cons_succ, List.set_nil, List.map_cons, List.map_nil, List.cons_append, List.nil_append, List.append_nil, List.replicate, List.getD_cons_zero, List.getD_cons_succ, List.contains_nil, List.contains_cons, Nat.reduceBEq, Bool.or_false, Bool.false_or, Bool.or_self, Bool.or_true, Bool.true_or, List.isEmpty_nil, List.isEmpty_cons, decide_true, decide_false, if_true, if_false, Bool.false_eq_true, Bool.not_true, Bool.not_false, Bool.and_true, Bool.true_and, Bool.and_self, Bool.and_false, Bool.false_and, reduceIte, Nat.zero_add, Nat.reduceAdd, Nat.reduceSub, Nat.reduceLT, Nat.reduceLeDiff, Nat.reduceEqDiff, decide_eq_true_eq, eq_self, Option.some.injEq, reduceCtorEq, Nat.lt_irrefl, evSs_cons, e1, isIntD, c1, c2, inB, c3, c4, xBound]
      · have c4 : i ≤ hi := by omega
        simp -implicitDefEqProofs only [evS, evT, evE, evP, evPs, evV, evA, evAnd, evOr, evI, Pv.a0, Pv.a1, Pv.v0, Pv.v1, opd, slotOf, satOp, Pv.two, Pv.one, ob_s, ob_n, sc_int, sc_bl, sc_str, sc_non, bd_ok, bd_exc, thenE_ok, thenE_exc, thenT_ok, thenT_exc, thenA_ok, thenI_ok, fl_nx, fl_ret, fl_exc, fl_bk, fl_ct, fl_nil, evSs_nil, asBl, asInt, un_non, un_bl, un_int, un_str, un_tup, un_lst, un_obj, un_un, fz, fzs, isSc, isScs, isFz, isFzs, isOwn, isOwns, dNeg, dT, tgA, setAll, okS, res, at2, it_tup, it_lst, chnD, lItems, tmps, cpyLoc, cpyTmp, ixTmp, ioPos, outFl, outsOf, fzs_ints, Pv.sto1, Pv.sto2, ownItems, at2_0, at2_1, at3_0, at3_1, at3_2, at4_0, at4_1, at4_2, at4_3, ix_20, ix_21, ix_40, ix_41, ix_42, ix_43, List.length_map, isFzs, d2_add, d2_sub, d2_lt, d2_le, d2_gt, d2_ge, d2_eq, d2_ne, d2_eqs, d2_eqb, d2_isn_non, d2_isn_int, d2_isn_bl, d2_isn_str, d2_isn_tup, d2_isn_lst, d2_notn_non, d2_notn_int, d2_notn_bl, d2_notn_str, d2_notn_tup, d2_notn_lst, d2_mod, d2_fdiv, Int.reduceToNat, Int.reducePow, Int.reduceEq, Int.reduceLT, Int.reduceLE, Int.reduceNeg, Int.reduceMul, Int.reduceAdd, Int.reduceSub, cst0, cst1, cst2, cst3, cst4, cst5, cst6, cst7, cst8, cst9, cst10, cst11, cst12, ne_eq, not_false_eq_true, not_true_eq_false, dF_gcd, dF_lenL, dF_lenT, dF_int, dF_intb, dF_abs, dF_min, dF_max, dI_ii, dI_ib, dI_is, dI_il, dI_it, dI_bi, dI_bb, dI_bs, dI_bl, dI_bt, dI_si, dI_sb, dI_ss, dI_sl, dI_st, dI_li, dI_lb, dI_ls, dI_ll, dI_lt, dI_ti, dI_tb, dI_ts, dI_tl, dI_tt, dI_ni, dI_nb, dI_ns, dI_nl, dI_nt, Option.map_some, List.length_cons, List.length_nil, List.getElem?_cons_zero, List.getElem?_cons_succ, List.getElem?_nil, List.set_cons_zero, List.set_cons_succ, List.set_nil, List.map_cons, List.map_nil, List.cons_append, List.nil_append, List.append_nil, List.replicate, List.getD_cons_zero, List.getD_cons_succ, List.contains_nil, List.contains_cons, Nat.reduceBEq, Bool.or_false, Bool.false_or, Bool.or_self, Bool.or_true, Bool.true_or, List.isEmpty_nil, List.isEmpty_cons, decide_true, decide_false, if_true, if_false, Bool.false_eq_true, Bool.not_true, Bool.not_false, Bool.and_true, Bool.true_and, Bool.and_self, Bool.and_false, Bool.false_and, reduceIte, Nat.zero_add, Nat.reduceAdd, Nat.reduceSub, Nat.reduceLT, Nat.reduceLeDiff, Nat.reduceEqDiff, decide_eq_true_eq, eq_self, Option.some.injEq, reduceCtorEq, Nat.lt_irrefl, evSs_cons, e1, isIntD, c1, c2, inB, c3, c4, xBound]
  · have hi' : isIntD d = false := by simpa using hi'
    have hb : inB d lo hi = false := by cases d <;> first | rfl | (simp [isIntD] at hi')
    simp -implicitDefEqProofs only [evS, evT, evE, evP, evPs, evV, evA, evAnd, evOr, evI, Pv.a0, Pv.a1, Pv.v0, Pv.v1, opd, slotOf, satOp, Pv.two, Pv.one, ob_s, ob_n, sc_int, sc_bl, sc_str, sc_non, bd_ok, bd_exc, thenE_ok, thenE_exc, thenT_ok, thenT_exc, thenA_ok, thenI_ok, fl_nx, fl_ret, fl_exc, fl_bk, fl_ct, fl_nil, evSs_nil, asBl, asInt, un_non, un_bl, un_int, un_str, un_tup, un_lst, un_obj, un_un, fz, fzs, isSc, isScs, isFz, isFzs, isOwn, isOwns, dNeg, dT, tgA, setAll, okS, res, at2, it_tup, it_lst, chnD, lItems, tmps, cpyLoc, cpyTmp, ixTmp, ioPos, outFl, outsOf, fzs_ints, Pv.sto1, Pv.sto2, ownItems, at2_0, at2_1, at3_0, at3_1, at3_2, at4_0, at4_1, at4_2, at4_3, ix_20, ix_21, ix_40, ix_41, ix_42, ix_43, List.length_map, isFzs, d2_add, d2_sub, d2_lt, d2_le, d2_gt, d2_ge, d2_eq, d2_ne, d2_eqs, d2_eqb, d2_isn_non, d2_isn_int, d2_isn_bl, d2_isn_str, d2_isn_tup, d2_isn_lst, d2_notn_non, d2_notn_int, d2_notn_bl, d2_notn_str, d2_notn_tup, d2_notn_lst, d2_mod, d2_fdiv, Int.reduceToNat, Int.reducePow, Int.reduceEq, Int.reduceLT, Int.reduceLE, Int.reduceNeg, Int.reduceMul, Int.reduceAdd, Int.reduceSub, cst0, cst1, cst2, cst3, cst4, cst5, cst6, cst7, cst8, cst9, cst10, cst11, cst12, ne_eq, not_false_eq_true, not_true_eq_false, dF_gcd, dF_lenL, dF_lenT, dF_int, dF_intb, dF_abs, dF_min, dF_max, dI_ii, dI_ib, dI_is, dI_il, dI_it, dI_bi, dI_bb, dI_bs, dI_bl, dI_bt, dI_si, dI_sb, dI_ss, dI_sl, dI_st, dI_li, dI_lb, dI_ls, dI_ll, dI_lt, dI_ti, dI_tb, dI_ts, dI_tl, dI_tt, dI_ni, dI_nb, dI_ns, dI_nl, dI_nt, Option.map_some, List.length_cons, List.length_nil, List.getElem?_cons_zero, List.getElem?_cons_succ, List.getElem?_nil, List.set_cons_zero, List.set_cons_succ, List.set_nil, List.map_cons, List.map_nil, List.cons_append, List.nil_append, List.append_nil, List.replicate, List.getD_cons_zero, List.getD_cons_succ, List.contains_nil, List.contains_cons, Nat.reduceBEq, Bool.or_false, Bool.false_or, Bool.or_self, Bool.or_true, Bool.true_or, List.isEmpty_nil, List.isEmpty_cons, decide_true, decide_false, if_true, if_false, Bool.false_eq_true, Bool.not_true, Bool.not_false, Bool.and_true, Bool.true_and, Bool.and_self, Bool.and_false, Bool.false_and, reduceIte, Nat.zero_add, Nat.reduceAdd, Nat.reduceSub, Nat.reduceLT, Nat.reduceLeDiff, Nat.reduceEqDiff, decide_eq_true_eq, eq_self, Option.some.injEq, reduceCtorEq, Nat.lt_irrefl, evSs_cons, e1, hi', hu, hz, hb, xBound]
theorem call_x4 {m : List D → Option Out} {x : Exc} {rs : List D} {A B C E : Arg} (hm : m [res rs A, res rs B, res rs C, res rs E] = some (.exc x)) : callD ⟨[false, false, false, false], m⟩ [A, B, C, E] rs = some (.exc x rs) := by
  cases A <;> cases B <;> cases C <;> cases E <;> simp [callD, ioOf, nodupB, passD, blank, hm]
theorem call_x1 {m : List D → Option Out} {x : Exc} {rs : List D} {A : Arg} (hm : m [res rs A] = some (.exc x)) : callD ⟨[false], m⟩ [A] rs = some (.exc x rs) := by
  cases A <;> simp [callD, ioOf, nodupB, passD, blank, hm]
theorem btw_ok {d : D} {rs : List D} {A : Arg} {nm : Str} {lo hi : Int} (hA : res rs A = d) (ha : ask1 d = true) (hb : inB d lo hi = true) : callD F_check_between [A, .tmp (.str nm), .tmp (.int lo), .tmp (.int hi)] rs = some (.ok d rs) := call_v4 (by
  rw [hA]
  show m_check_between [d, .str nm, .int lo, .int hi] = _
  simp only [m_check_between, ha, hb, if_true]) (by cases d <;> first | rfl | (simp [inB] at hb))
theorem btw_no {d : D} {rs : List D} {A : Arg} {nm : Str} {lo hi : Int} (hA : res rs A = d) (ha : ask1 d = true) (hb : inB d lo hi = false) : callD F_check_between [A, .tmp (.str nm), .tmp (.int lo), .tmp (.int hi)] rs = some (.exc (xBound nm) rs) := call_x4 (by
  rw [hA]
  show m_check_between [d, .str nm, .int lo, .int hi] = _
  simp only [m_check_between, ha, hb, if_true]; rfl)
/-! ### loops that multiply -/
theorem rngD_succ (lo : Int) (m : Nat) : rngD lo (m + 1) = .int lo :: rngD (lo + 1) m := by
  unfold rngD
  rw [List.range_succ_eq_map, List.map_cons, List.map_map]
  refine congr (congrArg _ ?_) (List.map_congr_left fun a _ => ?_)
  · show D.int (lo + ((0 : Nat) : Int)) = _
    congr 1
    omega
  · show D.int (lo + ((a + 1 : Nat) : Int)) = D.int (lo + 1 + (a : Int))
    congr 1
    omega

theorem mul_step {x y : Int} {a b : Nat} (hx : x.natAbs < 2 ^ a) (hy : y.natAbs < 2 ^ b) : (x * y).natAbs < 2 ^ (a + b) := by
  rw [Int.natAbs_mul, Nat.pow_add]
  exact Nat.mul_lt_mul'' hx hy
end Pv

set_option maxHeartbeats 4000000
set_option exponentiation.threshold 5000
namespace Pv
open PySem
/-! ### the law on factors -/
def xcs : List Str := ["InvalidBound"]
def xfs : List Str := ["name"]
def xbs : List Str := []
def b_factor_of : Ss := .cons (.ite (.pk (.op2 .ge (.var 0) (.con (.int 0)))) (.cons (.ret (.call "lowest" F_lowest (.cons (.pk (.op2 .add (.var 1) (.op2 .mul (.var 0) (.var 2)))) (.cons (.var 1) (.nil))))) (.nil)) (.nil)) (.cons (.asg (.nm 3) (.pk (.neg (.var 0)))) (.cons (.asg (.nm 4) (.con (.int 1))) (.cons (.asg (.nm 5) (.con (.int 1))) (.cons (.ite (.pk (.op2 .lt (.var 3) (.var 1))) (.cons (.for_ (.nm 6) (.rng2 (.cons (.con (.int 1)) (.cons (.pk (.op2 .add (.var 3) (.con (.int 1)))) (.nil)))) (.cons (.asg (.nm 4) (.pk (.op2 .mul (.var 4) (.op2 .sub (.var 1) (.var 6))))) (.cons (.asg (.nm 5) (.pk (.op2 .mul (.var 5) (.op2 .sub (.op2 .add (.var 1) (.var 2)) (.var 6))))) (.nil)))) (.nil)) (.cons (.ite (.pk (.op2 .lt (.var 3) (.op2 .add (.var 1) (.var 2)))) (.cons (.asg (.nm 4) (.con (.int 0))) (.nil)) (.cons (.for_ (.nm 7) (.rng2 (.cons (.var 1) (.cons (.pk (.op2 .add (.var 1) (.var 2))) (.nil)))) (.cons (.asg (.nm 4) (.pk (.op2 .mul (.var 4) (.op2 .sub (.var 7) (.var 3))))) (.cons (.asg (.nm 5) (.pk (.op2 .mul (.var 5) (.var 7)))) (.nil)))) (.nil))) (.nil))) (.cons (.ret (.call "lowest" F_lowest (.cons (.var 4) (.cons (.var 5) (.nil))))) (.nil))))))
def n_factor_of : Nat := 8
theorem d2_neg (i : Int) : dNeg (.int i) = some (.int (-i)) := rfl
theorem pow_mono2 {a b : Nat} (h : a ≤ b) : 2 ^ a ≤ 2 ^ b := Nat.pow_le_pow_right (by decide) h
theorem far_loop {r s n K p : D} {S N : Int} (hs : s = .int S) (hn : n = .int N) (hS : S.natAbs < 2 ^ 134) (hN : N.natAbs < 2 ^ 134) : ∀ (m j : Nat) (t b : Int) (x : D), j + m ≤ 25 → t = qp S j → b = qp (S + N) j → t.natAbs < 2 ^ (1 + 136 * j) → b.natAbs < 2 ^ (1 + 136 * j) →
    ∃ x', (qp S (j + m)).natAbs < 2 ^ 4000 ∧ (qp (S + N) (j + m)).natAbs < 2 ^ 4000 ∧ forL (tgA [] (.nm 6)) (evSs 0 [] (.cons (.asg (.nm 4) (.pk (.op2 .mul (.var 4) (.op2 .sub (.var 1) (.var 6))))) (.cons (.asg (.nm 5) (.pk (.op2 .mul (.var 5) (.op2 .sub (.op2 .add (.var 1) (.var 2)) (.var 6))))) (.nil)))) (rngD ((j : Int) + 1) m) [r, s, n, K, .int t, .int b, x, p] = some (.nx [r, s, n, K, .int (qp S (j + m)), .int (qp (S + N) (j + m)), x', p])
  | 0, j, t, b, x, hj, ht, hb, h1, h2 => by
    subst ht; subst hb
    exact ⟨x, Nat.lt_of_lt_of_le h1 (pow_mono2 (by omega)), Nat.lt_of_lt_of_le h2 (pow_mono2 (by omega)), rfl⟩
  | m + 1, j, t, b, x, hj, ht, hb, h1, h2 => by
    subst hs; subst hn
    have a1 : (S - ((j : Int) + 1)).natAbs < 2 ^ 136 := by omega
    have a2 : (S + N - ((j : Int) + 1)).natAbs < 2 ^ 136 := by omega
    have m1 : mulOk t (S - ((j : Int) + 1)) = true := mul_of _ _ h1 a1 (by omega) (by omega)
    have m2 : mulOk b (S + N - ((j : Int) + 1)) = true := mul_of _ _ h2 a2 (by omega) (by omega)
    obtain ⟨x', k1, k2, ih⟩ := far_loop (r := r) (K := K) (p := p) (s := .int S) (n := .int N) rfl rfl hS hN m (j + 1) (t * (S - ((j : Int) + 1))) (b * (S + N - ((j : Int) + 1))) (.int ((j : Int) + 1)) (by omega)
      (by rw [ht]; simp only [qp]; congr 2) (by rw [hb]; simp only [qp]; congr 2)
      (by have := mul_step h1 a1; rw [show 1 + 136 * (j + 1) = 1 + 136 * j + 136 by omega]; exact this)
      (by have := mul_step h2 a2; rw [show 1 + 136 * (j + 1) = 1 + 136 * j + 136 by omega]; exact this)
    have ej : j + 1 + m = j + (m + 1) := by omega
    rw [ej] at ih k1 k2
    refine ⟨x', k1, k2, ?_⟩
    rw [← ih]
    have er := rngD_succ ((j : Int) + 1) m
    rw [show (j : Int) + 1 + 1 = ((j + 1 : Nat) : Int) + 1 by omega] at er
    rw [er]
    simp only [forL]
    simp -implicitDefEqProofs only [evS, evT, evE, evP, evPs, evV, evA, evAnd, evOr, evI, Pv.a0, Pv.a1, Pv.v0, Pv.v1, opd, slotOf, satOp, Pv.two, Pv.one, ob_s, ob_n, sc_int, sc_bl, sc_str, sc_non, bd_ok, bd_exc, thenE_ok, thenE_exc, thenT_ok, thenT_exc, thenA_ok, thenI_ok, fl_nx, fl_ret, fl_exc, fl_bk, fl_ct, fl_nil, evSs_nil, asBl, asInt, un_non, un_bl, un_int, un_str, un_tup, un_lst, un_obj, un_un, fz, fzs, isSc, isScs, isFz, isFzs, isOwn, isOwns, dNeg, dT, tgA, setAll, okS, res, at2, it_tup, it_lst, chnD, lItems, tmps, cpyLoc, cpyTmp, ixTmp, ioPos, outFl, outsOf, fzs_ints, Pv.sto1, Pv.sto2, ownItems, at2_0, at2_1, at3_0, at3_1, at3_2, at4_0, at4_1, at4_2, at4_3, ix_20, ix_21, ix_40, ix_41, ix_42, ix_43, List.length_map, isFzs, d2_add, d2_sub, d2_lt, d2_le, d2_gt, d2_ge, d2_eq, d2_ne, d2_eqs, d2_eqb, d2_isn_non, d2_isn_int, d2_isn_bl, d2_isn_str, d2_isn_tup, d2_isn_lst, d2_notn_non, d2_notn_int, d2_notn_bl, d2_notn_str, d2_notn_tup, d2_notn_lst, d2_mod, d2_fdiv, Int.reduceToNat, Int.reducePow, Int.reduceEq, Int.reduceLT, Int.reduceLE, Int.reduceNeg, Int.reduceMul, Int.reduceAdd, Int.reduceSub, cst0, cst1, cst2, cst3, cst4, cst5, cst6, cst7, cst8, cst9, cst10, cst11, cst12, ne_eq, not_false_eq_true, not_true_eq_false, dF_gcd, dF_lenL, dF_lenT, dF_int, dF_intb, dF_abs, dF_min, dF_max, dI_ii, dI_ib, dI_is, dI_il, dI_it, dI_bi, dI_bb, dI_bs, dI_bl, dI_bt, dI_si, dI_sb, dI_ss, dI_sl, dI_st, dI_li, dI_lb, dI_ls, dI_ll, dI_lt, dI_ti, dI_tb, dI_ts, dI_tl, dI_tt, dI_ni, dI_nb, dI_ns, dI_nl, dI_nt, Option.map_some, List.length_cons, List.length_nil, List.getElem?_cons_zero, List.getElem?_cons_succ, List.getElem?_nil, List.set_cons_zero, List.set_cons_succ, List.set_nil, List.map_cons, List.map_nil, List.cons_append, List.nil_append, List.append_nil, List.replicate, List.getD_cons_zero, List.getD_cons_succ, List.contains_nil, List.contains_cons, Nat.reduceBEq, Bool.or_false, Bool.false_or, Bool.or_self, Bool.or_true, Bool.true_or, List.isEmpty_nil, List.isEmpty_cons, decide_true, decide_false, if_true, if_false, Bool.false_eq_true, Bool.not_true, Bool.not_false, Bool.and_true, Bool.true_and, Bool.and_self, Bool.and_false, Bool.false_and, reduceIte, Nat.zero_add, Nat.reduceAdd, Nat.reduceSub, Nat.reduceLT, Nat.reduceLeDiff, Nat.reduceEqDiff, decide_eq_true_eq, eq_self, Option.some.injEq, reduceCtorEq, Nat.lt_irrefl, evSs_cons, d2_mul m1, d2_mul m2]
theorem near_loop {r s n p : D} {k : Nat} {S N : Int} (hS : S.natAbs < 2 ^ 10) : ∀ (m j : Nat) (t b : Int) (x : D), j + m ≤ 25 → k ≤ 25 → t = tp (-(k : Int)) S j → b = bp S j → t.natAbs < 2 ^ (1 + 136 * j) → b.natAbs < 2 ^ (1 + 136 * j) →
    ∃ x', (tp (-(k : Int)) S (j + m)).natAbs < 2 ^ 4000 ∧ (bp S (j + m)).natAbs < 2 ^ 4000 ∧ forL (tgA [] (.nm 7)) (evSs 0 [] (.cons (.asg (.nm 4) (.pk (.op2 .mul (.var 4) (.op2 .sub (.var 7) (.var 3))))) (.cons (.asg (.nm 5) (.pk (.op2 .mul (.var 5) (.var 7)))) (.nil)))) (rngD (S + (j : Int)) m) [r, s, n, .int k, .int t, .int b, p, x] = some (.nx [r, s, n, .int k, .int (tp (-(k : Int)) S (j + m)), .int (bp S (j + m)), p, x'])
  | 0, j, t, b, x, hj, hk, ht, hb, h1, h2 => by
    subst ht; subst hb
    exact ⟨x, Nat.lt_of_lt_of_le h1 (pow_mono2 (by omega)), Nat.lt_of_lt_of_le h2 (pow_mono2 (by omega)), rfl⟩
  | m + 1, j, t, b, x, hj, hk, ht, hb, h1, h2 => by
    have a1 : (S + (j : Int) - (k : Int)).natAbs < 2 ^ 136 := by omega
    have a2 : (S + (j : Int)).natAbs < 2 ^ 136 := by omega
    have m1 : mulOk t (S + (j : Int) - (k : Int)) = true := mul_of _ _ h1 a1 (by omega) (by omega)
    have m2 : mulOk b (S + (j : Int)) = true := mul_of _ _ h2 a2 (by omega) (by omega)
    obtain ⟨x', k1, k2, ih⟩ := near_loop (r := r) (s := s) (n := n) (p := p) (k := k) (N := N) hS m (j + 1) (t * (S + (j : Int) - (k : Int))) (b * (S + (j : Int))) (.int (S + (j : Int))) (by omega) hk
      (by rw [ht]; simp only [tp]; rw [Int.sub_eq_add_neg]) (by rw [hb]; simp only [bp])
      (by have := mul_step h1 a1; rw [show 1 + 136 * (j + 1) = 1 + 136 * j + 136 by omega]; exact this)
      (by have := mul_step h2 a2; rw [show 1 + 136 * (j + 1) = 1 + 136 * j + 136 by omega]; exact this)
    have ej : j + 1 + m = j + (m + 1) := by omega
    rw [ej] at ih k1 k2
    refine ⟨x', k1, k2, ?_⟩
    rw [← ih]
    have er := rngD_succ (S + (j : Int)) m
    rw [show S + (j : Int) + 1 = S + ((j + 1 : Nat) : Int) by omega] at er
    rw [er]
    simp only [forL]
    simp -implicitDefEqProofs only [evS, evT, evE, evP, evPs, evV, evA, evAnd, evOr, evI, Pv.a0, Pv.a1, Pv.v0, Pv.v1, opd, slotOf, satOp, Pv.two, Pv.one, ob_s, ob_n, sc_int, sc_bl, sc_str, sc_non, bd_ok, bd_exc, thenE_ok, thenE_exc, thenT_ok, thenT_exc, thenA_ok, thenI_ok, fl_nx, fl_ret, fl_exc, fl_bk, fl_ct, fl_nil, evSs_nil, asBl, asInt, un_non, un_bl, un_int, un_str, un_tup, un_lst, un_obj, un_un, fz, fzs, isSc, isScs, isFz, isFzs, isOwn, isOwns, dNeg, dT, tgA, setAll, okS, res, at2, it_tup, it_lst, chnD, lItems, tmps, cpyLoc, cpyTmp, ixTmp, ioPos, outFl, outsOf, fzs_ints, Pv.sto1, Pv.sto2, ownItems, at2_0, at2_1, at3_0, at3_1, at3_2, at4_0, at4_1, at4_2, at4_3, ix_20, ix_21, ix_40, ix_41, ix_42, ix_43, List.length_map, isFzs, d2_add, d2_sub, d2_lt, d2_le, d2_gt, d2_ge, d2_eq, d2_ne, d2_eqs, d2_eqb, d2_isn_non, d2_isn_int, d2_isn_bl, d2_isn_str, d2_isn_tup, d2_isn_lst, d2_notn_non, d2_notn_int, d2_notn_bl, d2_notn_str, d2_notn_tup, d2_notn_lst, d2_mod, d2_fdiv, Int.reduceToNat, Int.reducePow, Int.reduceEq, Int.reduceLT, Int.reduceLE, Int.reduceNeg, Int.reduceMul, Int.reduceAdd, Int.reduceSub, cst0, cst1, cst2, cst3, cst4, cst5, cst6, cst7, cst8, cst9, cst10, cst11, cst12, ne_eq, not_false_eq_true, not_true_eq_false, dF_gcd, dF_lenL, dF_lenT, dF_int, dF_intb, dF_abs, dF_min, dF_max, dI_ii, dI_ib, dI_is, dI_il, dI_it, dI_bi, dI_bb, dI_bs, dI_bl, dI_bt, dI_si, dI_sb, dI_ss, dI_sl, dI_st, dI_li, dI_lb, dI_ls, dI_ll, dI_lt, dI_ti, dI_tb, dI_ts, dI_tl, dI_tt, dI_ni, dI_nb, dI_ns, dI_nl, dI_nt, Option.map_some, List.length_cons, List.length_nil, List.getElem?_cons_zero, List.getElem?_cons_succ, List.getElem?_nil, List.set_cons_zero, List.set_cons_succ, List.set_nil, List.map_cons, List.map_nil, List.cons_append, List.nil_append, List.append_nil, List.replicate, List.getD_cons_zero, List.getD_cons_succ, List.contains_nil, List.contains_cons, Nat.reduceBEq, Bool.or_false, Bool.false_or, Bool.or_self, Bool.or_true, Bool.true_or, List.isEmpty_nil, List.isEmpty_cons, decide_true, decide_false, if_true, if_false, Bool.false_eq_true, Bool.not_true, Bool.not_false, Bool.and_true, Bool.true_and, Bool.and_self, Bool.and_false, Bool.false_and, reduceIte, Nat.zero_add, Nat.reduceAdd, Nat.reduceSub, Nat.reduceLT, Nat.reduceLeDiff, Nat.reduceEqDiff, decide_eq_true_eq, eq_self, Option.some.injEq, reduceCtorEq, Nat.lt_irrefl, evSs_cons, d2_mul m1, d2_mul m2]
def facOk (r s n : Int) : Bool := (decide (-25 ≤ r) && decide (r ≤ 1)) && ((decide (1 ≤ s) && decide (s.natAbs < 2 ^ 134)) && (decide (0 ≤ n) && decide (n.natAbs < 2 ^ 134)))
def m_factor_of : List D → Option Out
  | [.int r, .int s, .int n] => if facOk r s n then some (.ret (frD (facI r s n.toNat)) []) else none
  | _ => none
def F_factor_of : Fn := ⟨[false, false, false], m_factor_of⟩
/-- the factor's size, and what the program does -/
theorem fac_ev {r s n : Int} (h : facOk r s n = true) : FB 4000 (facI r s n.toNat) ∧ evFn 0 [false, false, false] 8 b_factor_of [.int r, .int s, .int n] = some (.ret (frD (facI r s n.toNat)) []) := by
  simp only [facOk, Bool.and_eq_true, decide_eq_true_eq] at h
  obtain ⟨⟨h1, h2⟩, ⟨h3, h4⟩, h5, h6⟩ := h
  have en : ((n.toNat : Nat) : Int) = n := by omega
  unfold evFn b_factor_of
  by_cases c : 0 ≤ r
  · have hr : r = 0 ∨ r = 1 := by omega
    have mm : mulOk r n = true := mul_of 2 134 (by omega) h6 (by decide) (by decide)
    have e := fac_up (n := n.toNat) hr h3
    rw [en] at e
    have sz : (s + r * n).natAbs < 2 ^ 4000 := by
      have : (s + r * n).natAbs < 2 ^ 135 := by rcases hr with rfl | rfl <;> omega
      exact Nat.lt_trans this (Nat.pow_lt_pow_right (by decide) (by decide))
    refine ⟨e ▸ lowI_fb sz h3 (Nat.lt_trans h4 (Nat.pow_lt_pow_right (by decide) (by decide))), ?_⟩
    rw [evSs_cons]; simp -implicitDefEqProofs only [evS, evT, evE, evP, evPs, evV, evA, evAnd, evOr, evI, Pv.a0, Pv.a1, Pv.v0, Pv.v1, opd, slotOf, satOp, Pv.two, Pv.one, ob_s, ob_n, sc_int, sc_bl, sc_str, sc_non, bd_ok, bd_exc, thenE_ok, thenE_exc, thenT_ok, thenT_exc, thenA_ok, thenI_ok, fl_nx, fl_ret, fl_exc, fl_bk, fl_ct, fl_nil, evSs_nil, asBl, asInt, un_non, un_bl, un_int, un_str, un_tup, un_lst, un_obj, un_un, fz, fzs, isSc, isScs, isFz, isFzs, isOwn, isOwns, dNeg, dT, tgA, setAll, okS, res, at2, it_tup, it_lst, chnD, lItems, tmps, cpyLoc, cpyTmp, ixTmp, ioPos, outFl, outsOf, fzs_ints, Pv.sto1, Pv.sto2, ownItems, at2_0, at2_1, at3_0, at3_1, at3_2, at4_0, at4_1, at4_2, at4_3, ix_20, ix_21, ix_40, ix_41, ix_42, ix_43, List.length_map, isFzs, d2_add, d2_sub, d2_lt, d2_le, d2_gt, d2_ge, d2_eq, d2_ne, d2_eqs, d2_eqb, d2_isn_non, d2_isn_int, d2_isn_bl, d2_isn_str, d2_isn_tup, d2_isn_lst, d2_notn_non, d2_notn_int, d2_notn_bl, d2_notn_str, d2_notn_tup, d2_notn_lst, d2_mod, d2_fdiv, Int.reduceToNat, Int.reducePow, Int.reduceEq, Int.reduceLT, Int.reduceLE, Int.reduceNeg, Int.reduceMul, Int.reduceAdd, Int.reduceSub, cst0, cst1, cst2, cst3, cst4, cst5, cst6, cst7, cst8, cst9, cst10, cst11, cst12, ne_eq, not_false_eq_true, not_true_eq_false, dF_gcd, dF_lenL, dF_lenT, dF_int, dF_intb, dF_abs, dF_min, dF_max, dI_ii, dI_ib, dI_is, dI_il, dI_it, dI_bi, dI_bb, dI_bs, dI_bl, dI_bt, dI_si, dI_sb, dI_ss, dI_sl, dI_st, dI_li, dI_lb, dI_ls, dI_ll, dI_lt, dI_ti, dI_tb, dI_ts, dI_tl, dI_tt, dI_ni, dI_nb, dI_ns, dI_nl, dI_nt, Option.map_some, List.length_cons, List.length_nil, List.getElem?_cons_zero, List.getElem?_cons_succ, List.getElem?_nil, List.set_cons_zero, List.set_cons_succ, List.set_nil, List.map_cons, List.map_nil, List.cons_append, List.nil_append, List.append_nil, List.replicate, List.getD_cons_zero, List.getD_cons_succ, List.contains_nil, List.contains_cons, Nat.reduceBEq, Bool.or_false, Bool.false_or, Bool.or_self, Bool.or_true, Bool.true_or, List.isEmpty_nil, List.isEmpty_cons, decide_true, decide_false, if_true, if_false, Bool.false_eq_true, Bool.not_true, Bool.not_false, Bool.and_true, Bool.true_and, Bool.and_self, Bool.and_false, Bool.false_and, reduceIte, Nat.zero_add, Nat.reduceAdd, Nat.reduceSub, Nat.reduceLT, Nat.reduceLeDiff, Nat.reduceEqDiff, decide_eq_true_eq, eq_self, Option.some.injEq, reduceCtorEq, Nat.lt_irrefl, c, d2_mul mm, evSs_cons, call_lowest (A := .tmp (.int (s + r * n))) (B := .loc 1) (rs := [.int r, .int s, .int n, .un, .un, .un, .un, .un]) rfl rfl (show s ≠ 0 by omega), frD, e]
  · obtain ⟨k, hk⟩ : ∃ k : Nat, r = -(k : Int) := ⟨(-r).toNat, by omega⟩
    subst hk
    have k25 : k ≤ 25 := by omega
    have ek : (- -(k : Int)) = (k : Int) := by omega
    have c' : ¬ (0 : Int) ≤ -(k : Int) := c
    rw [evSs_cons]; simp -implicitDefEqProofs only [evS, evT, evE, evP, evPs, evV, evA, evAnd, evOr, evI, Pv.a0, Pv.a1, Pv.v0, Pv.v1, opd, slotOf, satOp, Pv.two, Pv.one, ob_s, ob_n, sc_int, sc_bl, sc_str, sc_non, bd_ok, bd_exc, thenE_ok, thenE_exc, thenT_ok, thenT_exc, thenA_ok, thenI_ok, fl_nx, fl_ret, fl_exc, fl_bk, fl_ct, fl_nil, evSs_nil, asBl, asInt, un_non, un_bl, un_int, un_str, un_tup, un_lst, un_obj, un_un, fz, fzs, isSc, isScs, isFz, isFzs, isOwn, isOwns, dNeg, dT, tgA, setAll, okS, res, at2, it_tup, it_lst, chnD, lItems, tmps, cpyLoc, cpyTmp, ixTmp, ioPos, outFl, outsOf, fzs_ints, Pv.sto1, Pv.sto2, ownItems, at2_0, at2_1, at3_0, at3_1, at3_2, at4_0, at4_1, at4_2, at4_3, ix_20, ix_21, ix_40, ix_41, ix_42, ix_43, List.length_map, isFzs, d2_add, d2_sub, d2_lt, d2_le, d2_gt, d2_ge, d2_eq, d2_ne, d2_eqs, d2_eqb, d2_isn_non, d2_isn_int, d2_isn_bl, d2_isn_str, d2_isn_tup, d2_isn_lst, d2_notn_non, d2_notn_int, d2_notn_bl, d2_notn_str, d2_notn_tup, d2_notn_lst, d2_mod, d2_fdiv, Int.reduceToNat, Int.reducePow, Int.reduceEq, Int.reduceLT, Int.reduceLE, Int.reduceNeg, Int.reduceMul, Int.reduceAdd, Int.reduceSub, cst0, cst1, cst2, cst3, cst4, cst5, cst6, cst7, cst8, cst9, cst10, cst11, cst12, ne_eq, not_false_eq_true, not_true_eq_false, dF_gcd, dF_lenL, dF_lenT, dF_int, dF_intb, dF_abs, dF_min, dF_max, dI_ii, dI_ib, dI_is, dI_il, dI_it, dI_bi, dI_bb, dI_bs, dI_bl, dI_bt, dI_si, dI_sb, dI_ss, dI_sl, dI_st, dI_li, dI_lb, dI_ls, dI_ll, dI_lt, dI_ti, dI_tb, dI_ts, dI_tl, dI_tt, dI_ni, dI_nb, dI_ns, dI_nl, dI_nt, Option.map_some, List.length_cons, List.length_nil, List.getElem?_cons_zero, List.getElem?_cons_succ, List.getElem?_nil, List.set_cons_zero, List.set_cons_succ, List.set_nil, List.map_cons, List.map_nil, List.cons_append, List.nil_append, List.append_nil, List.replicate, List.getD_cons_zero, List.getD_cons_succ, List.contains_nil, List.contains_cons, Nat.reduceBEq, Bool.or_false, Bool.false_or, Bool.or_self, Bool.or_true, Bool.true_or, List.isEmpty_nil, List.isEmpty_cons, decide_true, decide_false, if_true, if_false, Bool.false_eq_true, Bool.not_true, Bool.not_false, Bool.and_true, Bool.true_and, Bool.and_self, Bool.and_false, Bool.false_and, reduceIte, Nat.zero_add, Nat.reduceAdd, Nat.reduceSub, Nat.reduceLT, Nat.reduceLeDiff, Nat.reduceEqDiff, decide_eq_true_eq, eq_self, Option.some.injEq, reduceCtorEq, Nat.lt_irrefl, c', ge_iff_le]
    rw [evSs_cons]; simp -implicitDefEqProofs only [evS, evT, evE, evP, evPs, evV, evA, evAnd, evOr, evI, Pv.a0, Pv.a1, Pv.v0, Pv.v1, opd, slotOf, satOp, Pv.two, Pv.one, ob_s, ob_n, sc_int, sc_bl, sc_str, sc_non, bd_ok, bd_exc, thenE_ok, thenE_exc, thenT_ok, thenT_exc, thenA_ok, thenI_ok, fl_nx, fl_ret, fl_exc, fl_bk, fl_ct, fl_nil, evSs_nil, asBl, asInt, un_non, un_bl, un_int, un_str, un_tup, un_lst, un_obj, un_un, fz, fzs, isSc, isScs, isFz, isFzs, isOwn, isOwns, dNeg, dT, tgA, setAll, okS, res, at2, it_tup, it_lst, chnD, lItems, tmps, cpyLoc, cpyTmp, ixTmp, ioPos, outFl, outsOf, fzs_ints, Pv.sto1, Pv.sto2, ownItems, at2_0, at2_1, at3_0, at3_1, at3_2, at4_0, at4_1, at4_2, at4_3, ix_20, ix_21, ix_40, ix_41, ix_42, ix_43, List.length_map, isFzs, d2_add, d2_sub, d2_lt, d2_le, d2_gt, d2_ge, d2_eq, d2_ne, d2_eqs, d2_eqb, d2_isn_non, d2_isn_int, d2_isn_bl, d2_isn_str, d2_isn_tup, d2_isn_lst, d2_notn_non, d2_notn_int, d2_notn_bl, d2_notn_str, d2_notn_tup, d2_notn_lst, d2_mod, d2_fdiv, Int.reduceToNat, Int.reducePow, Int.reduceEq, Int.reduceLT, Int.reduceLE, Int.reduceNeg, Int.reduceMul, Int.reduceAdd, Int.reduceSub, cst0, cst1, cst2, cst3, cst4, cst5, cst6, cst7, cst8, cst9, cst10, cst11, cst12, ne_eq, not_false_eq_true, not_true_eq_false, dF_gcd, dF_lenL, dF_lenT, dF_int, dF_intb, dF_abs, dF_min, dF_max, dI_ii, dI_ib, dI_is, dI_il, dI_it, dI_bi, dI_bb, dI_bs, dI_bl, dI_bt, dI_si, dI_sb, dI_ss, dI_sl, dI_st, dI_li, dI_lb, dI_ls, dI_ll, dI_lt, dI_ti, dI_tb, dI_ts, dI_tl, dI_tt, dI_ni, dI_nb, dI_ns, dI_nl, dI_nt, Option.map_some, List.length_cons, List.length_nil, List.getElem?_cons_zero, List.getElem?_cons_succ, List.getElem?_nil, List.set_cons_zero, List.set_cons_succ, List.set_nil, List.map_cons, List.map_nil, List.cons_append, List.nil_append, List.append_nil, List.replicate, List.getD_cons_zero, List.getD_cons_succ, List.contains_nil, List.contains_cons, Nat.reduceBEq, Bool.or_false, Bool.false_or, Bool.or_self, Bool.or_true, Bool.true_or, List.isEmpty_nil, List.isEmpty_cons, decide_true, decide_false, if_true, if_false, Bool.false_eq_true, Bool.not_true, Bool.not_false, Bool.and_true, Bool.true_and, Bool.and_self, Bool.and_false, Bool.false_and, reduceIte, Nat.zero_add, Nat.reduceAdd, Nat.reduceSub, Nat.reduceLT, Nat.reduceLeDiff, Nat.reduceEqDiff, decide_eq_true_eq, eq_self, Option.some.injEq, reduceCtorEq, Nat.lt_irrefl, ek]
    rw [evSs_cons]; simp -implicitDefEqProofs only [evS, evT, evE, evP, evPs, evV, evA, evAnd, evOr, evI, Pv.a0, Pv.a1, Pv.v0, Pv.v1, opd, slotOf, satOp, Pv.two, Pv.one, ob_s, ob_n, sc_int, sc_bl, sc_str, sc_non, bd_ok, bd_exc, thenE_ok, thenE_exc, thenT_ok, thenT_exc, thenA_ok, thenI_ok, fl_nx, fl_ret, fl_exc, fl_bk, fl_ct, fl_nil, evSs_nil, asBl, asInt, un_non, un_bl, un_int, un_str, un_tup, un_lst, un_obj, un_un, fz, fzs, isSc, isScs, isFz, isFzs, isOwn, isOwns, dNeg, dT, tgA, setAll, okS, res, at2, it_tup, it_lst, chnD, lItems, tmps, cpyLoc, cpyTmp, ixTmp, ioPos, outFl, outsOf, fzs_ints, Pv.sto1, Pv.sto2, ownItems, at2_0, at2_1, at3_0, at3_1, at3_2, at4_0, at4_1, at4_2, at4_3, ix_20, ix_21, ix_40, ix_41, ix_42, ix_43, List.length_map, isFzs, d2_add, d2_sub, d2_lt, d2_le, d2_gt, d2_ge, d2_eq, d2_ne, d2_eqs, d2_eqb, d2_isn_non, d2_isn_int, d2_isn_bl, d2_isn_str, d2_isn_tup, d2_isn_lst, d2_notn_non, d2_notn_int, d2_notn_bl, d2_notn_str, d2_notn_tup, d2_notn_lst, d2_mod, d2_fdiv, Int.reduceToNat, Int.reducePow, Int.reduceEq, Int.reduceLT, Int.reduceLE, Int.reduceNeg, Int.reduceMul, Int.reduceAdd, Int.reduceSub, cst0, cst1, cst2, cst3, cst4, cst5, cst6, cst7, cst8, cst9, cst10, cst11, cst12, ne_eq, not_false_eq_true, not_true_eq_false, dF_gcd, dF_lenL, dF_lenT, dF_int, dF_intb, dF_abs, dF_min, dF_max, dI_ii, dI_ib, dI_is, dI_il, dI_it, dI_bi, dI_bb, dI_bs, dI_bl, dI_bt, dI_si, dI_sb, dI_ss, dI_sl, dI_st, dI_li, dI_lb, dI_ls, dI_ll, dI_lt, dI_ti, dI_tb, dI_ts, dI_tl, dI_tt, dI_ni, dI_nb, dI_ns, dI_nl, dI_nt, Option.map_some, List.length_cons, List.length_nil, List.getElem?_cons_zero, List.getElem?_cons_succ, List.getElem?_nil, List.set_cons_zero, List.set_cons_succ, List.set_nil, List.map_cons, List.map_nil, List.cons_append, List.nil_append, List.append_nil, List.replicate, List.getD_cons_zero, List.getD_cons_succ, List.contains_nil, List.contains_cons, Nat.reduceBEq, Bool.or_false, Bool.false_or, Bool.or_self, Bool.or_true, Bool.true_or, List.isEmpty_nil, List.isEmpty_cons, decide_true, decide_false, if_true, if_false, Bool.false_eq_true, Bool.not_true, Bool.not_false, Bool.and_true, Bool.true_and, Bool.and_self, Bool.and_false, Bool.false_and, reduceIte, Nat.zero_add, Nat.reduceAdd, Nat.reduceSub, Nat.reduceLT, Nat.reduceLeDiff, Nat.reduceEqDiff, decide_eq_true_eq, eq_self, Option.some.injEq, reduceCtorEq, Nat.lt_irrefl]
    rw [evSs_cons]; simp -implicitDefEqProofs only [evS, evT, evE, evP, evPs, evV, evA, evAnd, evOr, evI, Pv.a0, Pv.a1, Pv.v0, Pv.v1, opd, slotOf, satOp, Pv.two, Pv.one, ob_s, ob_n, sc_int, sc_bl, sc_str, sc_non, bd_ok, bd_exc, thenE_ok, thenE_exc, thenT_ok, thenT_exc, thenA_ok, thenI_ok, fl_nx, fl_ret, fl_exc, fl_bk, fl_ct, fl_nil, evSs_nil, asBl, asInt, un_non, un_bl, un_int, un_str, un_tup, un_lst, un_obj, un_un, fz, fzs, isSc, isScs, isFz, isFzs, isOwn, isOwns, dNeg, dT, tgA, setAll, okS, res, at2, it_tup, it_lst, chnD, lItems, tmps, cpyLoc, cpyTmp, ixTmp, ioPos, outFl, outsOf, fzs_ints, Pv.sto1, Pv.sto2, ownItems, at2_0, at2_1, at3_0, at3_1, at3_2, at4_0, at4_1, at4_2, at4_3, ix_20, ix_21, ix_40, ix_41, ix_42, ix_43, List.length_map, isFzs, d2_add, d2_sub, d2_lt, d2_le, d2_gt, d2_ge, d2_eq, d2_ne, d2_eqs, d2_eqb, d2_isn_non, d2_isn_int, d2_isn_bl, d2_isn_str, d2_isn_tup, d2_isn_lst, d2_notn_non, d2_notn_int, d2_notn_bl, d2_notn_str, d2_notn_tup, d2_notn_lst, d2_mod, d2_fdiv, Int.reduceToNat, Int.reducePow, Int.reduceEq, Int.reduceLT, Int.reduceLE, Int.reduceNeg, Int.reduceMul, Int.reduceAdd, Int.reduceSub, cst0, cst1, cst2, cst3, cst4, cst5, cst6, cst7, cst8, cst9, cst10, cst11, cst12, ne_eq, not_false_eq_true, not_true_eq_false, dF_gcd, dF_lenL, dF_lenT, dF_int, dF_intb, dF_abs, dF_min, dF_max, dI_ii, dI_ib, dI_is, dI_il, dI_it, dI_bi, dI_bb, dI_bs, dI_bl, dI_bt, dI_si, dI_sb, dI_ss, dI_sl, dI_st, dI_li, dI_lb, dI_ls, dI_ll, dI_lt, dI_ti, dI_tb, dI_ts, dI_tl, dI_tt, dI_ni, dI_nb, dI_ns, dI_nl, dI_nt, Option.map_some, List.length_cons, List.length_nil, List.getElem?_cons_zero, List.getElem?_cons_succ, List.getElem?_nil, List.set_cons_zero, List.set_cons_succ, List.set_nil, List.map_cons, List.map_nil, List.cons_append, List.nil_append, List.append_nil, List.replicate, List.getD_cons_zero, List.getD_cons_succ, List.contains_nil, List.contains_cons, Nat.reduceBEq, Bool.or_false, Bool.false_or, Bool.or_self, Bool.or_true, Bool.true_or, List.isEmpty_nil, List.isEmpty_cons, decide_true, decide_false, if_true, if_false, Bool.false_eq_true, Bool.not_true, Bool.not_false, Bool.and_true, Bool.true_and, Bool.and_self, Bool.and_false, Bool.false_and, reduceIte, Nat.zero_add, Nat.reduceAdd, Nat.reduceSub, Nat.reduceLT, Nat.reduceLeDiff, Nat.reduceEqDiff, decide_eq_true_eq, eq_self, Option.some.injEq, reduceCtorEq, Nat.lt_irrefl]
    by_cases c1 : (k : Int) < s
    · obtain ⟨x', q1, q2, e1⟩ := far_loop (r := .int (-(k : Int))) (K := .int (k : Int)) (p := .un) (s := .int s) (n := .int n) rfl rfl h4 h6 k 0 1 1 .un (by omega) rfl rfl (by decide) (by decide)
      rw [Nat.zero_add] at e1 q1 q2
      have e := fac_far (n := n.toNat) c1
      rw [en] at e
      have hq := qp_pos (s + n) k (by omega)
      have eb : rngB 1 = true := by decide
      have eb2 : rngB ((k : Int) + 1) = true := by unfold rngB; simp only [Bool.and_eq_true, decide_eq_true_eq]; omega
      have et : ((k : Int) + 1 - 1).toNat = k := by omega
      refine ⟨e ▸ lowI_fb q1 hq q2, ?_⟩
      have e0 : ((0 : Nat) : Int) + 1 = 1 := rfl
      rw [e0] at e1
      rw [evSs_cons]; simp -implicitDefEqProofs only [evS, evT, evE, evP, evPs, evV, evA, evAnd, evOr, evI, Pv.a0, Pv.a1, Pv.v0, Pv.v1, opd, slotOf, satOp, Pv.two, Pv.one, ob_s, ob_n, sc_int, sc_bl, sc_str, sc_non, bd_ok, bd_exc, thenE_ok, thenE_exc, thenT_ok, thenT_exc, thenA_ok, thenI_ok, fl_nx, fl_ret, fl_exc, fl_bk, fl_ct, fl_nil, evSs_nil, asBl, asInt, un_non, un_bl, un_int, un_str, un_tup, un_lst, un_obj, un_un, fz, fzs, isSc, isScs, isFz, isFzs, isOwn, isOwns, dNeg, dT, tgA, setAll, okS, res, at2, it_tup, it_lst, chnD, lItems, tmps, cpyLoc, cpyTmp, ixTmp, ioPos, outFl, outsOf, fzs_ints, Pv.sto1, Pv.sto2, ownItems, at2_0, at2_1, at3_0, at3_1, at3_2, at4_0, at4_1, at4_2, at4_3, ix_20, ix_21, ix_40, ix_41, ix_42, ix_43, List.length_map, isFzs, d2_add, d2_sub, d2_lt, d2_le, d2_gt, d2_ge, d2_eq, d2_ne, d2_eqs, d2_eqb, d2_isn_non, d2_isn_int, d2_isn_bl, d2_isn_str, d2_isn_tup, d2_isn_lst, d2_notn_non, d2_notn_int, d2_notn_bl, d2_notn_str, d2_notn_tup, d2_notn_lst, d2_mod, d2_fdiv, Int.reduceToNat, Int.reducePow, Int.reduceEq, Int.reduceLT, Int.reduceLE, Int.reduceNeg, Int.reduceMul, Int.reduceAdd, Int.reduceSub, cst0, cst1, cst2, cst3, cst4, cst5, cst6, cst7, cst8, cst9, cst10, cst11, cst12, ne_eq, not_false_eq_true, not_true_eq_false, dF_gcd, dF_lenL, dF_lenT, dF_int, dF_intb, dF_abs, dF_min, dF_max, dI_ii, dI_ib, dI_is, dI_il, dI_it, dI_bi, dI_bb, dI_bs, dI_bl, dI_bt, dI_si, dI_sb, dI_ss, dI_sl, dI_st, dI_li, dI_lb, dI_ls, dI_ll, dI_lt, dI_ti, dI_tb, dI_ts, dI_tl, dI_tt, dI_ni, dI_nb, dI_ns, dI_nl, dI_nt, Option.map_some, List.length_cons, List.length_nil, List.getElem?_cons_zero, List.getElem?_cons_succ, List.getElem?_nil, List.set_cons_zero, List.set_cons_succ, List.set_nil, List.map_cons, List.map_nil, List.cons_append, List.nil_append, List.append_nil, List.replicate, List.getD_cons_zero, List.getD_cons_succ, List.contains_nil, List.contains_cons, Nat.reduceBEq, Bool.or_false, Bool.false_or, Bool.or_self, Bool.or_true, Bool.true_or, List.isEmpty_nil, List.isEmpty_cons, decide_true, decide_false, if_true, if_false, Bool.false_eq_true, Bool.not_true, Bool.not_false, Bool.and_true, Bool.true_and, Bool.and_self, Bool.and_false, Bool.false_and, reduceIte, Nat.zero_add, Nat.reduceAdd, Nat.reduceSub, Nat.reduceLT, Nat.reduceLeDiff, Nat.reduceEqDiff, decide_eq_true_eq, eq_self, Option.some.injEq, reduceCtorEq, Nat.lt_irrefl, c1, evSs_cons, eb, eb2, et, e1]
      simp -implicitDefEqProofs only [evS, evT, evE, evP, evPs, evV, evA, evAnd, evOr, evI, Pv.a0, Pv.a1, Pv.v0, Pv.v1, opd, slotOf, satOp, Pv.two, Pv.one, ob_s, ob_n, sc_int, sc_bl, sc_str, sc_non, bd_ok, bd_exc, thenE_ok, thenE_exc, thenT_ok, thenT_exc, thenA_ok, thenI_ok, fl_nx, fl_ret, fl_exc, fl_bk, fl_ct, fl_nil, evSs_nil, asBl, asInt, un_non, un_bl, un_int, un_str, un_tup, un_lst, un_obj, un_un, fz, fzs, isSc, isScs, isFz, isFzs, isOwn, isOwns, dNeg, dT, tgA, setAll, okS, res, at2, it_tup, it_lst, chnD, lItems, tmps, cpyLoc, cpyTmp, ixTmp, ioPos, outFl, outsOf, fzs_ints, Pv.sto1, Pv.sto2, ownItems, at2_0, at2_1, at3_0, at3_1, at3_2, at4_0, at4_1, at4_2, at4_3, ix_20, ix_21, ix_40, ix_41, ix_42, ix_43, List.length_map, isFzs, d2_add, d2_sub, d2_lt, d2_le, d2_gt, d2_ge, d2_eq, d2_ne, d2_eqs, d2_eqb, d2_isn_non, d2_isn_int, d2_isn_bl, d2_isn_str, d2_isn_tup, d2_isn_lst, d2_notn_non, d2_notn_int, d2_notn_bl, d2_notn_str, d2_notn_tup, d2_notn_lst, d2_mod, d2_fdiv, Int.reduceToNat, Int.reducePow, Int.reduceEq, Int.reduceLT, Int.reduceLE, Int.reduceNeg, Int.reduceMul, Int.reduceAdd, Int.reduceSub, cst0, cst1, cst2, cst3, cst4, cst5, cst6, cst7, cst8, cst9, cst10, cst11, cst12, ne_eq, not_false_eq_true, not_true_eq_false, dF_gcd, dF_lenL, dF_lenT, dF_int, dF_intb, dF_abs, dF_min, dF_max, dI_ii, dI_ib, dI_is, dI_il, dI_it, dI_bi, dI_bb, dI_bs, dI_bl, dI_bt, dI_si, dI_sb, dI_ss, dI_sl, dI_st, dI_li, dI_lb, dI_ls, dI_ll, dI_lt, dI_ti, dI_tb, dI_ts, dI_tl, dI_tt, dI_ni, dI_nb, dI_ns, dI_nl, dI_nt, Option.map_some, List.length_cons, List.length_nil, List.getElem?_cons_zero, List.getElem?_cons_succ, List.getElem?_nil, List.set_cons_zero, List.set_cons_succ, List.set_nil, List.map_cons, List.map_nil, List.cons_append, List.nil_append, List.append_nil, List.replicate, List.getD_cons_zero, List.getD_cons_succ, List.contains_nil, List.contains_cons, Nat.reduceBEq, Bool.or_false, Bool.false_or, Bool.or_self, Bool.or_true, Bool.true_or, List.isEmpty_nil, List.isEmpty_cons, decide_true, decide_false, if_true, if_false, Bool.false_eq_true, Bool.not_true, Bool.not_false, Bool.and_true, Bool.true_and, Bool.and_self, Bool.and_false, Bool.false_and, reduceIte, Nat.zero_add, Nat.reduceAdd, Nat.reduceSub, Nat.reduceLT, Nat.reduceLeDiff, Nat.reduceEqDiff, decide_eq_true_eq, eq_self, Option.some.injEq, reduceCtorEq, Nat.lt_irrefl, call_lowest (A := .loc 4) (B := .loc 5) (rs := [.int (-(k : Int)), .int s, .int n, .int (k : Int), .int (qp s k), .int (qp (s + n) k), x', .un]) rfl rfl (show qp (s + n) k ≠ 0 by omega), frD, e]
    · by_cases c2 : (k : Int) < s + n
      · have e := fac_zero (n := n.toNat) h3 (by omega) (show (k : Int) < s + (n.toNat : Int) by omega)
        refine ⟨e ▸ lowI_fb (by decide +kernel) (by decide) (by decide +kernel), ?_⟩
        rw [evSs_cons]; simp -implicitDefEqProofs only [evS, evT, evE, evP, evPs, evV, evA, evAnd, evOr, evI, Pv.a0, Pv.a1, Pv.v0, Pv.v1, opd, slotOf, satOp, Pv.two, Pv.one, ob_s, ob_n, sc_int, sc_bl, sc_str, sc_non, bd_ok, bd_exc, thenE_ok, thenE_exc, thenT_ok, thenT_exc, thenA_ok, thenI_ok, fl_nx, fl_ret, fl_exc, fl_bk, fl_ct, fl_nil, evSs_nil, asBl, asInt, un_non, un_bl, un_int, un_str, un_tup, un_lst, un_obj, un_un, fz, fzs, isSc, isScs, isFz, isFzs, isOwn, isOwns, dNeg, dT, tgA, setAll, okS, res, at2, it_tup, it_lst, chnD, lItems, tmps, cpyLoc, cpyTmp, ixTmp, ioPos, outFl, outsOf, fzs_ints, Pv.sto1, Pv.sto2, ownItems, at2_0, at2_1, at3_0, at3_1, at3_2, at4_0, at4_1, at4_2, at4_3, ix_20, ix_21, ix_40, ix_41, ix_42, ix_43, List.length_map, isFzs, d2_add, d2_sub, d2_lt, d2_le, d2_gt, d2_ge, d2_eq, d2_ne, d2_eqs, d2_eqb, d2_isn_non, d2_isn_int, d2_isn_bl, d2_isn_str, d2_isn_tup, d2_isn_lst, d2_notn_non, d2_notn_int, d2_notn_bl, d2_notn_str, d2_notn_tup, d2_notn_lst, d2_mod, d2_fdiv, Int.reduceToNat, Int.reducePow, Int.reduceEq, Int.reduceLT, Int.reduceLE, Int.reduceNeg, Int.reduceMul, Int.reduceAdd, Int.reduceSub, cst0, cst1, cst2, cst3, cst4, cst5, cst6, cst7, cst8, cst9, cst10, cst11, cst12, ne_eq, not_false_eq_true, not_true_eq_false, dF_gcd, dF_lenL, dF_lenT, dF_int, dF_intb, dF_abs, dF_min, dF_max, dI_ii, dI_ib, dI_is, dI_il, dI_it, dI_bi, dI_bb, dI_bs, dI_bl, dI_bt, dI_si, dI_sb, dI_ss, dI_sl, dI_st, dI_li, dI_lb, dI_ls, dI_ll, dI_lt, dI_ti, dI_tb, dI_ts, dI_tl, dI_tt, dI_ni, dI_nb, dI_ns, dI_nl, dI_nt, Option.map_some, List.length_cons, List.length_nil, List.getElem?_cons_zero, List.getElem?_cons_succ, List.getElem?_nil, List.set_cons_zero, List.set_cons_succ, List.set_nil, List.map_cons, List.map_nil, List.cons_append, List.nil_append, List.append_nil, List.replicate, List.getD_cons_zero, List.getD_cons_succ, List.contains_nil, List.contains_cons, Nat.reduceBEq, Bool.or_false, Bool.false_or, Bool.or_self, Bool.or_true, Bool.true_or, List.isEmpty_nil, List.isEmpty_cons, decide_true, decide_false, if_true, if_false, Bool.false_eq_true, Bool.not_true, Bool.not_false, Bool.and_true, Bool.true_and, Bool.and_self, Bool.and_false, Bool.false_and, reduceIte, Nat.zero_add, Nat.reduceAdd, Nat.reduceSub, Nat.reduceLT, Nat.reduceLeDiff, Nat.reduceEqDiff, decide_eq_true_eq, eq_self, Option.some.injEq, reduceCtorEq, Nat.lt_irrefl, c1, c2, evSs_cons]
        simp -implicitDefEqProofs only [evS, evT, evE, evP, evPs, evV, evA, evAnd, evOr, evI, Pv.a0, Pv.a1, Pv.v0, Pv.v1, opd, slotOf, satOp, Pv.two, Pv.one, ob_s, ob_n, sc_int, sc_bl, sc_str, sc_non, bd_ok, bd_exc, thenE_ok, thenE_exc, thenT_ok, thenT_exc, thenA_ok, thenI_ok, fl_nx, fl_ret, fl_exc, fl_bk, fl_ct, fl_nil, evSs_nil, asBl, asInt, un_non, un_bl, un_int, un_str, un_tup, un_lst, un_obj, un_un, fz, fzs, isSc, isScs, isFz, isFzs, isOwn, isOwns, dNeg, dT, tgA, setAll, okS, res, at2, it_tup, it_lst, chnD, lItems, tmps, cpyLoc, cpyTmp, ixTmp, ioPos, outFl, outsOf, fzs_ints, Pv.sto1, Pv.sto2, ownItems, at2_0, at2_1, at3_0, at3_1, at3_2, at4_0, at4_1, at4_2, at4_3, ix_20, ix_21, ix_40, ix_41, ix_42, ix_43, List.length_map, isFzs, d2_add, d2_sub, d2_lt, d2_le, d2_gt, d2_ge, d2_eq, d2_ne, d2_eqs, d2_eqb, d2_isn_non, d2_isn_int, d2_isn_bl, d2_isn_str, d2_isn_tup, d2_isn_lst, d2_notn_non, d2_notn_int, d2_notn_bl, d2_notn_str, d2_notn_tup, d2_notn_lst, d2_mod, d2_fdiv, Int.reduceToNat, Int.reducePow, Int.reduceEq, Int.reduceLT, Int.reduceLE, Int.reduceNeg, Int.reduceMul, Int.reduceAdd, Int.reduceSub, cst0, cst1, cst2, cst3, cst4, cst5, cst6, cst7, cst8, cst9, cst10, cst11, cst12, ne_eq, not_false_eq_true, not_true_eq_false, dF_gcd, dF_lenL, dF_lenT, dF_int, dF_intb, dF_abs, dF_min, dF_max, dI_ii, dI_ib, dI_is, dI_il, dI_it, dI_bi, dI_bb, dI_bs, dI_bl, dI_bt, dI_si, dI_sb, dI_ss, dI_sl, dI_st, dI_li, dI_lb, dI_ls, dI_ll, dI_lt, dI_ti, dI_tb, dI_ts, dI_tl, dI_tt, dI_ni, dI_nb, dI_ns, dI_nl, dI_nt, Option.map_some, List.length_cons, List.length_nil, List.getElem?_cons_zero, List.getElem?_cons_succ, List.getElem?_nil, List.set_cons_zero, List.set_cons_succ, List.set_nil, List.map_cons, List.map_nil, List.cons_append, List.nil_append, List.append_nil, List.replicate, List.getD_cons_zero, List.getD_cons_succ, List.contains_nil, List.contains_cons, Nat.reduceBEq, Bool.or_false, Bool.false_or, Bool.or_self, Bool.or_true, Bool.true_or, List.isEmpty_nil, List.isEmpty_cons, decide_true, decide_false, if_true, if_false, Bool.false_eq_true, Bool.not_true, Bool.not_false, Bool.and_true, Bool.true_and, Bool.and_self, Bool.and_false, Bool.false_and, reduceIte, Nat.zero_add, Nat.reduceAdd, Nat.reduceSub, Nat.reduceLT, Nat.reduceLeDiff, Nat.reduceEqDiff, decide_eq_true_eq, eq_self, Option.some.injEq, reduceCtorEq, Nat.lt_irrefl, call_lowest (A := .loc 4) (B := .loc 5) (rs := [.int (-(k : Int)), .int s, .int n, .int (k : Int), .int 0, .int 1, .un, .un]) rfl rfl (show (1 : Int) ≠ 0 by decide), frD, e]
      · obtain ⟨x', q1, q2, e1⟩ := near_loop (r := .int (-(k : Int))) (s := .int s) (n := .int n) (p := .un) (k := k) (S := s) (N := n) (by omega) n.toNat 0 1 1 .un (by omega) k25 rfl rfl (by decide) (by decide)
        rw [Nat.zero_add] at e1 q1 q2
        have hq := bp_pos h3 n.toNat
        have eb : rngB s = true := by unfold rngB; simp only [Bool.and_eq_true, decide_eq_true_eq]; omega
        have eb2 : rngB (s + n) = true := by unfold rngB; simp only [Bool.and_eq_true, decide_eq_true_eq]; omega
        have et : (s + n - s).toNat = n.toNat := by omega
        refine ⟨lowI_fb q1 hq q2, ?_⟩
        have e0 : s + ((0 : Nat) : Int) = s := by omega
        rw [e0] at e1
        rw [evSs_cons]; simp -implicitDefEqProofs only [evS, evT, evE, evP, evPs, evV, evA, evAnd, evOr, evI, Pv.a0, Pv.a1, Pv.v0, Pv.v1, opd, slotOf, satOp, Pv.two, Pv.one, ob_s, ob_n, sc_int, sc_bl, sc_str, sc_non, bd_ok, bd_exc, thenE_ok, thenE_exc, thenT_ok, thenT_exc, thenA_ok, thenI_ok, fl_nx, fl_ret, fl_exc, fl_bk, fl_ct, fl_nil, evSs_nil, asBl, asInt, un_non, un_bl, un_int, un_str, un_tup, un_lst, un_obj, un_un, fz, fzs, isSc, isScs, isFz, isFzs, isOwn, isOwns, dNeg, dT, tgA, setAll, okS, res, at2, it_tup, it_lst, chnD, lItems, tmps, cpyLoc, cpyTmp, ixTmp, ioPos, outFl, outsOf, fzs_ints, Pv.sto1, Pv.sto2, ownItems, at2_0, at2_1, at3_0, at3_1, at3_2, at4_0, at4_1, at4_2, at4_3, ix_20, ix_21, ix_40, ix_41, ix_42, ix_43, List.length_map, isFzs, d2_add, d2_sub, d2_lt, d2_le, d2_gt, d2_ge, d2_eq, d2_ne, d2_eqs, d2_eqb, d2_isn_non, d2_isn_int, d2_isn_bl, d2_isn_str, d2_isn_tup, d2_isn_lst, d2_notn_non, d2_notn_int, d2_notn_bl, d2_notn_str, d2_notn_tup, d2_notn_lst, d2_mod, d2_fdiv, Int.reduceToNat, Int.reducePow, Int.reduceEq, Int.reduceLT, Int.reduceLE, Int.reduceNeg, Int.reduceMul, Int.reduceAdd, Int.reduceSub, cst0, cst1, cst2, cst3, cst4, cst5, cst6, cst7, cst8, cst9, cst10, cst11, cst12, ne_eq, not_false_eq_true, not_true_eq_false, dF_gcd, dF_lenL, dF_lenT, dF_int, dF_intb, dF_abs, dF_min, dF_max, dI_ii, dI_ib, dI_is, dI_il, dI_it, dI_bi, dI_bb, dI_bs, dI_bl, dI_bt, dI_si, dI_sb, dI_ss, dI_sl, dI_st, dI_li, dI_lb, dI_ls, dI_ll, dI_lt, dI_ti, dI_tb, dI_ts, dI_tl, dI_tt, dI_ni, dI_nb, dI_ns, dI_nl, dI_nt, Option.map_some, List.length_cons, List.length_nil, List.getElem?_cons_zero, List.getElem?_cons_succ, List.getElem?_nil, List.set_cons_zero, List.set_cons_succ, List.set_nil, List.map_cons, List.map_nil, List.cons_append, List.nil_append, List.append_nil, List.replicate, List.getD_cons_zero, List.getD_cons_succ, List.contains_nil, List.contains_cons, Nat.reduceBEq, Bool.or_false, Bool.false_or, Bool.or_self, Bool.or_true, Bool.true_or, List.isEmpty_nil, List.isEmpty_cons, decide_true, decide_false, if_true, if_false, Bool.false_eq_true, Bool.not_true, Bool.not_false, Bool.and_true, Bool.true_and, Bool.and_self, Bool.and_false, Bool.false_and, reduceIte, Nat.zero_add, Nat.reduceAdd, Nat.reduceSub, Nat.reduceLT, Nat.reduceLeDiff, Nat.reduceEqDiff, decide_eq_true_eq, eq_self, Option.some.injEq, reduceCtorEq, Nat.lt_irrefl, c1, c2, evSs_cons, eb, eb2, et, e1]
        simp -implicitDefEqProofs only [evS, evT, evE, evP, evPs, evV, evA, evAnd, evOr, evI, Pv.a0, Pv.a1, Pv.v0, Pv.v1, opd, slotOf, satOp, Pv.two, Pv.one, ob_s, ob_n, sc_int, sc_bl, sc_str, sc_non, bd_ok, bd_exc, thenE_ok, thenE_exc, thenT_ok, thenT_exc, thenA_ok, thenI_ok, fl_nx, fl_ret, fl_exc, fl_bk, fl_ct, fl_nil, evSs_nil, asBl, asInt, un_non, un_bl, un_int, un_str, un_tup, un_lst, un_obj, un_un, fz, fzs, isSc, isScs, isFz, isFzs, isOwn, isOwns, dNeg, dT, tgA, setAll, okS, res, at2, it_tup, it_lst, chnD, lItems, tmps, cpyLoc, cpyTmp, ixTmp, ioPos, outFl, outsOf, fzs_ints, Pv.sto1, Pv.sto2, ownItems, at2_0, at2_1, at3_0, at3_1, at3_2, at4_0, at4_1, at4_2, at4_3, ix_20, ix_21, ix_40, ix_41, ix_42, ix_43, List.length_map, isFzs, d2_add, d2_sub, d2_lt, d2_le, d2_gt, d2_ge, d2_eq, d2_ne, d2_eqs, d2_eqb, d2_isn_non, d2_isn_int, d2_isn_bl, d2_isn_str, d2_isn_tup, d2_isn_lst, d2_notn_non, d2_notn_int, d2_notn_bl, d2_notn_str, d2_notn_tup, d2_notn_lst, d2_mod, d2_fdiv, Int.reduceToNat, Int.reducePow, Int.reduceEq, Int.reduceLT, Int.reduceLE, Int.reduceNeg, Int.reduceMul, Int.reduceAdd, Int.reduceSub, cst0, cst1, cst2, cst3, cst4, cst5, cst6, cst7, cst8, cst9, cst10, cst11, cst12, ne_eq, not_false_eq_true, not_true_eq_false, dF_gcd, dF_lenL, dF_lenT, dF_int, dF_intb, dF_abs, dF_min, dF_max, dI_ii, dI_ib, dI_is, dI_il, dI_it, dI_bi, dI_bb, dI_bs, dI_bl, dI_bt, dI_si, dI_sb, dI_ss, dI_sl, dI_st, dI_li, dI_lb, dI_ls, dI_ll, dI_lt, dI_ti, dI_tb, dI_ts, dI_tl, dI_tt, dI_ni, dI_nb, dI_ns, dI_nl, dI_nt, Option.map_some, List.length_cons, List.length_nil, List.getElem?_cons_zero, List.getElem?_cons_succ, List.getElem?_nil, List.set_cons_zero, List.set_cons_succ, List.set_nil, List.map_cons, List.map_nil, List.cons_append, List.nil_append, List.append_nil, List.replicate, List.getD_cons_zero, List.getD_cons_succ, List.contains_nil, List.contains_cons, Nat.reduceBEq, Bool.or_false, Bool.false_or, Bool.or_self, Bool.or_true, Bool.true_or, List.isEmpty_nil, List.isEmpty_cons, decide_true, decide_false, if_true, if_false, Bool.false_eq_true, Bool.not_true, Bool.not_false, Bool.and_true, Bool.true_and, Bool.and_self, Bool.and_false, Bool.false_and, reduceIte, Nat.zero_add, Nat.reduceAdd, Nat.reduceSub, Nat.reduceLT, Nat.reduceLeDiff, Nat.reduceEqDiff, decide_eq_true_eq, eq_self, Option.some.injEq, reduceCtorEq, Nat.lt_irrefl, call_lowest (A := .loc 4) (B := .loc 5) (rs := [.int (-(k : Int)), .int s, .int n, .int (k : Int), .int (tp (-(k : Int)) s n.toNat), .int (bp s n.toNat), .un, x']) rfl rfl (show bp s n.toNat ≠ 0 by omega), frD, facI]
theorem hm_factor_of : ∀ ds o, m_factor_of ds = some o → ∃ n, evFn n [false, false, false] 8 b_factor_of ds = some o := by
  intro ds o h
  refine ⟨0, ?_⟩
  unfold m_factor_of at h
  split at h
  case h_2 => cases h
  rename_i r s n
  split at h
  case isFalse => cases h
  rename_i hc
  cases h
  exact (fac_ev hc).2

def isPos (d : D) : Bool := match d with
  | .int i => decide (1 ≤ i)
  | _ => false
def m_check_from_one : List D → Option Out
  | [d] => if ask1 d then some (if isPos d then .ret .non [] else .exc (xBound "start")) else none
  | _ => none
def F_check_from_one : Fn := ⟨[false], m_check_from_one⟩
def b_check_from_one : Ss := .cons (.ite (.lor (.cons (.lnot (.pk (.isi (.var 0) "int"))) (.cons (.pk (.isi (.var 0) "bool")) (.cons (.pk (.op2 .lt (.var 0) (.con (.int 1)))) (.nil))))) (.cons (.raise "InvalidBound" ["name"] (.cons (.con (.str "start")) (.nil))) (.nil)) (.nil)) (.nil)
def n_check_from_one : Nat := 1
theorem hm_check_from_one : ∀ ds o, m_check_from_one ds = some o → ∃ n, evFn n [false] 1 b_check_from_one ds = some o := by
  intro ds o h
  refine ⟨0, ?_⟩
  unfold m_check_from_one at h
  split at h
  case h_2 => cases h
  rename_i d
  split at h
  case isFalse => cases h
  rename_i ha
  cases h
  have hu := ask1_un ha
  have hz := ask1_fz ha
  unfold evFn b_check_from_one
  cases d with
  | un => cases hu
  | int i =>
    by_cases c : i < 1
    · have c' : ¬ 1 ≤ i := by omega
      simp -implicitDefEqProofs only [evS, evT, evE, evP, evPs, evV, evA, evAnd, evOr, evI, Pv.a0, Pv.a1, Pv.v0, Pv.v1, opd, slotOf, satOp, Pv.two, Pv.one, ob_s, ob_n, sc_int, sc_bl, sc_str, sc_non, bd_ok, bd_exc, thenE_ok, thenE_exc, thenT_ok, thenT_exc, thenA_ok, thenI_ok, fl_nx, fl_ret, fl_exc, fl_bk, fl_ct, fl_nil, evSs_nil, asBl, asInt, un_non, un_bl, un_int, un_str, un_tup, un_lst, un_obj, un_un, fz, fzs, isSc, isScs, isFz, isFzs, isOwn, isOwns, dNeg, dT, tgA, setAll, okS, res, at2, it_tup, it_lst, chnD, lItems, tmps, cpyLoc, cpyTmp, ixTmp, ioPos, outFl, outsOf, fzs_ints, Pv.sto1, Pv.sto2, ownItems, at2_0, at2_1, at3_0, at3_1, at3_2, at4_0, at4_1, at4_2, at4_3, ix_20, ix_21, ix_40, ix_41, ix_42, ix_43, List.length_map, isFzs, d2_add, d2_sub, d2_lt, d2_le, d2_gt, d2_ge, d2_eq, d2_ne, d2_eqs, d2_eqb, d2_isn_non, d2_isn_int, d2_isn_bl, d2_isn_str, d2_isn_tup, d2_isn_lst, d2_notn_non, d2_notn_int, d2_notn_bl, d2_notn_str, d2_notn_tup, d2_notn_lst, d2_mod, d2_fdiv, Int.reduceToNat, Int.reducePow, Int.reduceEq, Int.reduceLT, Int.reduceLE, Int.reduceNeg, Int.reduceMul, Int.reduceAdd, Int.reduceSub, cst0, cst1, cst2, cst3, cst4, cst5, cst6, cst7, cst8, cst9, cst10, cst11, cst12, ne_eq, not_false_eq_true, not_true_eq_false, dF_gcd, dF_lenL, dF_lenT, dF_int, dF_intb, dF_abs, dF_min, dF_max, dI_ii, dI_ib, dI_is, dI_il, dI_it, dI_bi, dI_bb, dI_bs, dI_bl, dI_bt, dI_si, dI_sb, dI_ss, dI_sl, dI_st, dI_li, dI_lb, dI_ls, dI_ll, dI_lt, dI_ti, dI_tb, dI_ts, dI_tl, dI_tt, dI_ni, dI_nb, dI_ns, dI_nl, dI_nt, Option.map_some, List.length_cons, List.length_nil, List.getElem?_cons_zero, List.getElem?_cons_succ, List.getElem?_nil, List.set_cons_zero, List.set_cons_succ, List.set_nil, List.map_cons, List.map_nil, List.cons_append, List.nil_append, List.append_nil, List.replicate, List.getD_cons_zero, List.getD_cons_succ, List.contains_nil, List.contains_cons, Nat.reduceBEq, Bool.or_false, Bool.false_or, Bool.or_self, Bool.or_true, Bool.true_or, List.isEmpty_nil, List.isEmpty_cons, decide_true, decide_false, if_true, if_false, Bool.false_eq_true, Bool.not_true, Bool.not_false, Bool.and_true, Bool.true_and, Bool.and_self, Bool.and_false, Bool.false_and, reduceIte, Nat.zero_add, Nat.reduceAdd, Nat.reduceSub, Nat.reduceLT, Nat.reduceLeDiff, Nat.reduceEqDiff, decide_eq_true_eq, eq_self, Option.some.injEq, reduceCtorEq, Nat.lt_irrefl, evSs_cons, isPos, c, c', xBound]
    · have c' : 1 ≤ i := by omega
      simp -implicitDefEqProofs only [evS, evT, evE, evP, evPs, evV, evA, evAnd, evOr, evI, Pv.a0, Pv.a1, Pv.v0, Pv.v1, opd, slotOf, satOp, Pv.two, Pv.one, ob_s, ob_n, sc_int, sc_bl, sc_str, sc_non, bd_ok, bd_exc, thenE_ok, thenE_exc, thenT_ok, thenT_exc, thenA_ok, thenI_ok, fl_nx, fl_ret, fl_exc, fl_bk, fl_ct, fl_nil, evSs_nil, asBl, asInt, un_non, un_bl, un_int, un_str, un_tup, un_lst, un_obj, un_un, fz, fzs, isSc, isScs, isFz, isFzs, isOwn, isOwns, dNeg, dT, tgA, setAll, okS, res, at2, it_tup, it_lst, chnD, lItems, tmps, cpyLoc, cpyTmp, ixTmp, ioPos, outFl, outsOf, fzs_ints, Pv.sto1, Pv.sto2, ownItems, at2_0, at2_1, at3_0, at3_1, at3_2, at4_0, at4_1, at4_2, at4_3, ix_20, ix_21, ix_40, ix_41, ix_42, ix_43, List.length_map, isFzs, d2_add, d2_sub, d2_lt, d2_le, d2_gt, d2_ge, d2_eq, d2_ne, d2_eqs, d2_eqb, d2_isn_non, d2_isn_int, d2_isn_bl, d2_isn_str, d2_isn_tup, d2_isn_lst, d2_notn_non, d2_notn_int, d2_notn_bl, d2_notn_str, d2_notn_tup, d2_notn_lst, d2_mod, d2_fdiv, Int.reduceToNat, Int.reducePow, Int.reduceEq, Int.reduceLT, Int.reduceLE, Int.reduceNeg, Int.reduceMul, Int.reduceAdd, Int.reduceSub, cst0, cst1, cst2, cst3, cst4, cst5, cst6, cst7, cst8, cst9, cst10, cst11, cst12, ne_eq, not_false_eq_true, not_true_eq_false, dF_gcd, dF_lenL, dF_lenT, dF_int, dF_intb, dF_abs, dF_min, dF_max, dI_ii, dI_ib, dI_is, dI_il, dI_it, dI_bi, dI_bb, dI_bs, dI_bl, dI_bt, dI_si, dI_sb, dI_ss, dI_sl, dI_st, dI_li, dI_lb, dI_ls, dI_ll, dI_lt, dI_ti, dI_tb, dI_ts, dI_tl, dI_tt, dI_ni, dI_nb, dI_ns, dI_nl, dI_nt, Option.map_some, List.length_cons, List.length_nil, List.getElem?_cons_zero, List.getElem?_cons_succ, List.getElem?_nil, List.set_cons_zero, List.set_cons_succ, List.set_nil, List.map_cons, List.map_nil, List.cons_append, List.nil_append, List.append_nil, List.replicate, List.getD_cons_zero, List.getD_cons_succ, List.contains_nil, List.contains_cons, Nat.reduceBEq, Bool.or_false, Bool.false_or, Bool.or_self, Bool.or_true, Bool.true_or, List.isEmpty_nil, List.isEmpty_cons, decide_true, decide_false, if_true, if_false, Bool.false_eq_true, Bool.not_true, Bool.not_false, Bool.and_true, Bool.true_and, Bool.and_self, Bool.and_false, Bool.false_and, reduceIte, Nat.zero_add, Nat.reduceAdd, Nat.reduceSub, Nat.reduceLT, Nat.reduceLeDiff, Nat.reduceEqDiff, decide_eq_true_eq, eq_self, Option.some.injEq, reduceCtorEq, Nat.lt_irrefl, evSs_cons, isPos, c, c', xBound]
  | non => simp -implicitDefEqProofs only [evS, evT, evE, evP, evPs, evV, evA, evAnd, evOr, evI, Pv.a0, Pv.a1, Pv.v0, Pv.v1, opd, slotOf, satOp, Pv.two, Pv.one, ob_s, ob_n, sc_int, sc_bl, sc_str, sc_non, bd_ok, bd_exc, thenE_ok, thenE_exc, thenT_ok, thenT_exc, thenA_ok, thenI_ok, fl_nx, fl_ret, fl_exc, fl_bk, fl_ct, fl_nil, evSs_nil, asBl, asInt, un_non, un_bl, un_int, un_str, un_tup, un_lst, un_obj, un_un, fz, fzs, isSc, isScs, isFz, isFzs, isOwn, isOwns, dNeg, dT, tgA, setAll, okS, res, at2, it_tup, it_lst, chnD, lItems, tmps, cpyLoc, cpyTmp, ixTmp, ioPos, outFl, outsOf, fzs_ints, Pv.sto1, Pv.sto2, ownItems, at2_0, at2_1, at3_0, at3_1, at3_2, at4_0, at4_1, at4_2, at4_3, ix_20, ix_21, ix_40, ix_41, ix_42, ix_43, List.length_map, isFzs, d2_add, d2_sub, d2_lt, d2_le, d2_gt, d2_ge, d2_eq, d2_ne, d2_eqs, d2_eqb, d2_isn_non, d2_isn_int, d2_isn_bl, d2_isn_str, d2_isn_tup, d2_isn_lst, d2_notn_non, d2_notn_int, d2_notn_bl, d2_notn_str, d2_notn_tup, d2_notn_lst, d2_mod, d2_fdiv, Int.reduceToNat, Int.reducePow, Int.reduceEq, Int.reduceLT, Int.reduceLE, Int.reduceNeg, Int.reduceMul, Int.reduceAdd, Int.reduceSub, cst0, cst1, cst2, cst3, cst4, cst5, cst6, cst7, cst8, cst9, cst10, cst11, cst12, ne_eq, not_false_eq_true, not_true_eq_false, dF_gcd, dF_lenL, dF_lenT, dF_int, dF_intb, dF_abs, dF_min, dF_max, dI_ii, dI_ib, dI_is, dI_il, dI_it, dI_bi, dI_bb, dI_bs, dI_bl, dI_bt, dI_si, dI_sb, dI_ss, dI_sl, dI_st, dI_li, dI_lb, dI_ls, dI_ll, dI_lt, dI_ti, dI_tb, dI_ts, dI_tl, dI_tt, dI_ni, dI_nb, dI_ns, dI_nl, dI_nt, Option.map_some, List.length_cons, List.length_nil, List.getElem?_cons_zero, List.getElem?_cons_succ, List.getElem?_nil, List.set_cons_zero, List.set_cons_succ, List.set_nil, List.map_cons, List.map_nil, List.cons_append, List.nil_append, List.append_nil, List.replicate, List.getD_cons_zero, List.getD_cons_succ, List.contains_nil, List.contains_cons, Nat.reduceBEq, Bool.or_false, Bool.false_or, Bool.or_self, Bool.or_true, Bool.true_or, List.isEmpty_nil, List.isEmpty_cons, decide_true, decide_false, if_true, if_false, Bool.false_eq_true, Bool.not_true, Bool.not_false, Bool.and_true, Bool.true_and, Bool.and_self, Bool.and_false, Bool.false_and, reduceIte, Nat.zero_add, Nat.reduceAdd, Nat.reduceSub, Nat.reduceLT, Nat.reduceLeDiff, Nat.reduceEqDiff, decide_eq_true_eq, eq_self, Option.some.injEq, reduceCtorEq, Nat.lt_irrefl, evSs_cons, isPos, xBound]
  | bl b => simp -implicitDefEqProofs only [evS, evT, evE, evP, evPs, evV, evA, evAnd, evOr, evI, Pv.a0, Pv.a1, Pv.v0, Pv.v1, opd, slotOf, satOp, Pv.two, Pv.one, ob_s, ob_n, sc_int, sc_bl, sc_str, sc_non, bd_ok, bd_exc, thenE_ok, thenE_exc, thenT_ok, thenT_exc, thenA_ok, thenI_ok, fl_nx, fl_ret, fl_exc, fl_bk, fl_ct, fl_nil, evSs_nil, asBl, asInt, un_non, un_bl, un_int, un_str, un_tup, un_lst, un_obj, un_un, fz, fzs, isSc, isScs, isFz, isFzs, isOwn, isOwns, dNeg, dT, tgA, setAll, okS, res, at2, it_tup, it_lst, chnD, lItems, tmps, cpyLoc, cpyTmp, ixTmp, ioPos, outFl, outsOf, fzs_ints, Pv.sto1, Pv.sto2, ownItems, at2_0, at2_1, at3_0, at3_1, at3_2, at4_0, at4_1, at4_2, at4_3, ix_20, ix_21, ix_40, ix_41, ix_42, ix_43, List.length_map, isFzs, d2_add, d2_sub, d2_lt, d2_le, d2_gt, d2_ge, d2_eq, d2_ne, d2_eqs, d2_eqb, d2_isn_non, d2_isn_int, d2_isn_bl, d2_isn_str, d2_isn_tup, d2_isn_lst, d2_notn_non, d2_notn_int, d2_notn_bl, d2_notn_str, d2_notn_tup, d2_notn_lst, d2_mod, d2_fdiv, Int.reduceToNat, Int.reducePow, Int.reduceEq, Int.reduceLT, Int.reduceLE, Int.reduceNeg, Int.reduceMul, Int.reduceAdd, Int.reduceSub, cst0, cst1, cst2, cst3, cst4, cst5, cst6, cst7, cst8, cst9, cst10, cst11, cst12, ne_eq, not_false_eq_true, not_true_eq_false, dF_gcd, dF_lenL, dF_lenT, dF_int, dF_intb, dF_abs, dF_min, dF_max, dI_ii, dI_ib, dI_is, dI_il, dI_it, dI_bi, dI_bb, dI_bs, dI_bl, dI_bt, dI_si, dI_sb, dI_ss, dI_sl, dI_st, dI_li, dI_lb, dI_ls, dI_ll, dI_lt, dI_ti, dI_tb, dI_ts, dI_tl, dI_tt, dI_ni, dI_nb, dI_ns, dI_nl, dI_nt, Option.map_some, List.length_cons, List.length_nil, List.getElem?_cons_zero, List.getElem?_cons_succ, List.getElem?_nil, List.set_cons_zero, List.set_cons_succ, List.set_nil, List.map_cons, List.map_nil, List.cons_append, List.nil_append, List.append_nil, List.replicate, List.getD_cons_zero, List.getD_cons_succ, List.contains_nil, List.contains_cons, Nat.reduceBEq, Bool.or_false, Bool.false_or, Bool.or_self, Bool.or_true, Bool.true_or, List.isEmpty_nil, List.isEmpty_cons, decide_true, decide_false, if_true, if_false, Bool.false_eq_true, Bool.not_true, Bool.not_false, Bool.and_true, Bool.true_and, Bool.and_self, Bool.and_false, Bool.false_and, reduceIte, Nat.zero_add, Nat.reduceAdd, Nat.reduceSub, Nat.reduceLT, Nat.reduceLeDiff, Nat.reduceEqDiff, decide_eq_true_eq, eq_self, Option.some.injEq, reduceCtorEq, Nat.lt_irrefl, evSs_cons, isPos, xBound]
  | str b => simp -implicitDefEqProofs only [evS, evT, evE, evP, evPs, evV, evA, evAnd, evOr, evI, Pv.a0, Pv.a1, Pv.v0, Pv.v1, opd, slotOf, satOp, Pv.two, Pv.one, ob_s, ob_n, sc_int, sc_bl, sc_str, sc_non, bd_ok, bd_exc, thenE_ok, thenE_exc, thenT_ok, thenT_exc, thenA_ok, thenI_ok, fl_nx, fl_ret, fl_exc, fl_bk, fl_ct, fl_nil, evSs_nil, asBl, asInt, un_non, un_bl, un_int, un_str, un_tup, un_lst, un_obj, un_un, fz, fzs, isSc, isScs, isFz, isFzs, isOwn, isOwns, dNeg, dT, tgA, setAll, okS, res, at2, it_tup, it_lst, chnD, lItems, tmps, cpyLoc, cpyTmp, ixTmp, ioPos, outFl, outsOf, fzs_ints, Pv.sto1, Pv.sto2, ownItems, at2_0, at2_1, at3_0, at3_1, at3_2, at4_0, at4_1, at4_2, at4_3, ix_20, ix_21, ix_40, ix_41, ix_42, ix_43, List.length_map, isFzs, d2_add, d2_sub, d2_lt, d2_le, d2_gt, d2_ge, d2_eq, d2_ne, d2_eqs, d2_eqb, d2_isn_non, d2_isn_int, d2_isn_bl, d2_isn_str, d2_isn_tup, d2_isn_lst, d2_notn_non, d2_notn_int, d2_notn_bl, d2_notn_str, d2_notn_tup, d2_notn_lst, d2_mod, d2_fdiv, Int.reduceToNat, Int.reducePow, Int.reduceEq, Int.reduceLT, Int.reduceLE, Int.reduceNeg, Int.reduceMul, Int.reduceAdd, Int.reduceSub, cst0, cst1, cst2, cst3, cst4, cst5, cst6, cst7, cst8, cst9, cst10, cst11, cst12, ne_eq, not_false_eq_true, not_true_eq_false, dF_gcd, dF_lenL, dF_lenT, dF_int, dF_intb, dF_abs, dF_min, dF_max, dI_ii, dI_ib, dI_is, dI_il, dI_it, dI_bi, dI_bb, dI_bs, dI_bl, dI_bt, dI_si, dI_sb, dI_ss, dI_sl, dI_st, dI_li, dI_lb, dI_ls, dI_ll, dI_lt, dI_ti, dI_tb, dI_ts, dI_tl, dI_tt, dI_ni, dI_nb, dI_ns, dI_nl, dI_nt, Option.map_some, List.length_cons, List.length_nil, List.getElem?_cons_zero, List.getElem?_cons_succ, List.getElem?_nil, List.set_cons_zero, List.set_cons_succ, List.set_nil, List.map_cons, List.map_nil, List.cons_append, List.nil_append, List.append_nil, List.replicate, List.getD_cons_zero, List.getD_cons_succ, List.contains_nil, List.contains_cons, Nat.reduceBEq, Bool.or_false, Bool.false_or, Bool.or_self, Bool.or_true, Bool.true_or, List.isEmpty_nil, List.isEmpty_cons, decide_true, decide_false, if_true, if_false, Bool.false_eq_true, Bool.not_true, Bool.not_false, Bool.and_true, Bool.true_and, Bool.and_self, Bool.and_false, Bool.false_and, reduceIte, Nat.zero_add, Nat.reduceAdd, Nat.reduceSub, Nat.reduceLT, Nat.reduceLeDiff, Nat.reduceEqDiff, decide_eq_true_eq, eq_self, Option.some.injEq, reduceCtorEq, Nat.lt_irrefl, evSs_cons, isPos, xBound]
  | tup xs =>
    have hz' : fzs xs = xs := by simpa [fz] using hz
    simp -implicitDefEqProofs only [evS, evT, evE, evP, evPs, evV, evA, evAnd, evOr, evI, Pv.a0, Pv.a1, Pv.v0, Pv.v1, opd, slotOf, satOp, Pv.two, Pv.one, ob_s, ob_n, sc_int, sc_bl, sc_str, sc_non, bd_ok, bd_exc, thenE_ok, thenE_exc, thenT_ok, thenT_exc, thenA_ok, thenI_ok, fl_nx, fl_ret, fl_exc, fl_bk, fl_ct, fl_nil, evSs_nil, asBl, asInt, un_non, un_bl, un_int, un_str, un_tup, un_lst, un_obj, un_un, fz, fzs, isSc, isScs, isFz, isFzs, isOwn, isOwns, dNeg, dT, tgA, setAll, okS, res, at2, it_tup, it_lst, chnD, lItems, tmps, cpyLoc, cpyTmp, ixTmp, ioPos, outFl, outsOf, fzs_ints, Pv.sto1, Pv.sto2, ownItems, at2_0, at2_1, at3_0, at3_1, at3_2, at4_0, at4_1, at4_2, at4_3, ix_20, ix_21, ix_40, ix_41, ix_42, ix_43, List.length_map, isFzs, d2_add, d2_sub, d2_lt, d2_le, d2_gt, d2_ge, d2_eq, d2_ne, d2_eqs, d2_eqb, d2_isn_non, d2_isn_int, d2_isn_bl, d2_isn_str, d2_isn_tup, d2_isn_lst, d2_notn_non, d2_notn_int, d2_notn_bl, d2_notn_str, d2_notn_tup, d2_notn_lst, d2_mod, d2_fdiv, Int.reduceToNat, Int.reducePow, Int.reduceEq, Int.reduceLT, Int.reduceLE, Int.reduceNeg, Int.reduceMul, Int.reduceAdd, Int.reduceSub, cst0, cst1, cst2, cst3, cst4, cst5, cst6, cst7, cst8, cst9, cst10, cst11, cst12, ne_eq, not_false_eq_true, not_true_eq_false, dF_gcd, dF_lenL, dF_lenT, dF_int, dF_intb, dF_abs, dF_min, dF_max, dI_ii, dI_ib, dI_is, dI_il, dI_it, dI_bi, dI_bb, dI_bs, dI_bl, dI_bt, dI_si, dI_sb, dI_ss, dI_sl, dI_st, dI_li, dI_lb, dI_ls, dI_ll, dI_lt, dI_ti, dI_tb, dI_ts, dI_tl, dI_tt, dI_ni, dI_nb, dI_ns, dI_nl, dI_nt, Option.map_some, List.length_cons, List.length_nil, List.getElem?_cons_zero, List.getElem?_cons_succ, List.getElem?_nil, List.set_cons_zero, List.set_cons_succ, List.set_nil, List.map_cons, List.map_nil, List.cons_append, List.nil_append, List.append_nil, List.replicate, List.getD_cons_zero, List.getD_cons_succ, List.contains_nil, List.contains_cons, Nat.reduceBEq, Bool.or_false, Bool.false_or, Bool.or_self, Bool.or_true, Bool.true_or, List.isEmpty_nil, List.isEmpty_cons, decide_true, decide_false, if_true, if_false, Bool.false_eq_true, Bool.not_true, Bool.not_false, Bool.and_true, Bool.true_and, Bool.and_self, Bool.and_false, Bool.false_and, reduceIte, Nat.zero_add, Nat.reduceAdd, Nat.reduceSub, Nat.reduceLT, Nat.reduceLeDiff, Nat.reduceEqDiff, decide_eq_true_eq, eq_self, Option.some.injEq, reduceCtorEq, Nat.lt_irrefl, evSs_cons, isPos, xBound, hz']
  | lst o xs =>
    have hz' : fzs xs = xs ∧ o = false := by simp [fz] at hz; exact ⟨hz.2, hz.1⟩
    simp -implicitDefEqProofs only [evS, evT, evE, evP, evPs, evV, evA, evAnd, evOr, evI, Pv.a0, Pv.a1, Pv.v0, Pv.v1, opd, slotOf, satOp, Pv.two, Pv.one, ob_s, ob_n, sc_int, sc_bl, sc_str, sc_non, bd_ok, bd_exc, thenE_ok, thenE_exc, thenT_ok, thenT_exc, thenA_ok, thenI_ok, fl_nx, fl_ret, fl_exc, fl_bk, fl_ct, fl_nil, evSs_nil, asBl, asInt, un_non, un_bl, un_int, un_str, un_tup, un_lst, un_obj, un_un, fz, fzs, isSc, isScs, isFz, isFzs, isOwn, isOwns, dNeg, dT, tgA, setAll, okS, res, at2, it_tup, it_lst, chnD, lItems, tmps, cpyLoc, cpyTmp, ixTmp, ioPos, outFl, outsOf, fzs_ints, Pv.sto1, Pv.sto2, ownItems, at2_0, at2_1, at3_0, at3_1, at3_2, at4_0, at4_1, at4_2, at4_3, ix_20, ix_21, ix_40, ix_41, ix_42, ix_43, List.length_map, isFzs, d2_add, d2_sub, d2_lt, d2_le, d2_gt, d2_ge, d2_eq, d2_ne, d2_eqs, d2_eqb, d2_isn_non, d2_isn_int, d2_isn_bl, d2_isn_str, d2_isn_tup, d2_isn_lst, d2_notn_non, d2_notn_int, d2_notn_bl, d2_notn_str, d2_notn_tup, d2_notn_lst, d2_mod, d2_fdiv, Int.reduceToNat, Int.reducePow, Int.reduceEq, Int.reduceLT, Int.reduceLE, Int.reduceNeg, Int.reduceMul, Int.reduceAdd, Int.reduceSub, cst0, cst1, cst2, cst3, cst4, cst5, cst6, cst7, cst8, cst9, cst10, cst11, cst12, ne_eq, not_false_eq_true, not_true_eq_false, dF_gcd, dF_lenL, dF_lenT, dF_int, dF_intb, dF_abs, dF_min, dF_max, dI_ii, dI_ib, dI_is, dI_il, dI_it, dI_bi, dI_bb, dI_bs, dI_bl, dI_bt, dI_si, dI_sb, dI_ss, dI_sl, dI_st, dI_li, dI_lb, dI_ls, dI_ll, dI_lt, dI_ti, dI_tb, dI_ts, dI_tl, dI_tt, dI_ni, dI_nb, dI_ns, dI_nl, dI_nt, Option.map_some, List.length_cons, List.length_nil, List.getElem?_cons_zero, List.getElem?_cons_succ, List.getElem?_nil, List.set_cons_zero, List.set_cons_succ, List.set_nil, List.map_cons, List.map_nil, List.cons_append, List.nil_append, List.append_nil, List.replicate, List.getD_cons_zero, List.getD_cons_succ, List.contains_nil, List.contains_cons, Nat.reduceBEq, Bool.or_false, Bool.false_or, Bool.or_self, Bool.or_true, Bool.true_or, List.isEmpty_nil, List.isEmpty_cons, decide_true, decide_false, if_true, if_false, Bool.false_eq_true, Bool.not_true, Bool.not_false, Bool.and_true, Bool.true_and, Bool.and_self, Bool.and_false, Bool.false_and, reduceIte, Nat.zero_add, Nat.reduceAdd, Nat.reduceSub, Nat.reduceLT, Nat.reduceLeDiff, Nat.reduceEqDiff, decide_eq_true_eq, eq_self, Option.some.injEq, reduceCtorEq, Nat.lt_irrefl, evSs_cons, isPos, xBound, hz'.1]
  | obj _ _ _ _ => simp [ask1, tyName] at ha
theorem from_ok {d : D} {rs : List D} {A : Arg} (hA : res rs A = d) (ha : ask1 d = true) (hb : isPos d = true) : callD F_check_from_one [A] rs = some (.ok .non rs) := call_v1 (by
  rw [hA]
  show m_check_from_one [d] = _
  simp only [m_check_from_one, ha, hb, if_true]) rfl
theorem from_no {d : D} {rs : List D} {A : Arg} (hA : res rs A = d) (ha : ask1 d = true) (hb : isPos d = false) : callD F_check_from_one [A] rs = some (.exc (xBound "start") rs) := call_x1 (by
  rw [hA]
  show m_check_from_one [d] = _
  simp only [m_check_from_one, ha, hb, if_true]; rfl)
def b_factor : Ss := .cons (.expr (.call "check_between" F_check_between (.cons (.var 0) (.cons (.con (.str "root")) (.cons (.glo "LEAST_ROOT" (.int (-25))) (.cons (.glo "GREATEST_ROOT" (.int 1)) (.nil))))))) (.cons (.expr (.call "check_from_one" F_check_from_one (.cons (.var 1) (.nil)))) (.cons (.expr (.call "check_between" F_check_between (.cons (.var 2) (.cons (.con (.str "n")) (.cons (.con (.int 0)) (.cons (.glo "FAR" (.int 10000000000000000000000000000000000000000)) (.nil))))))) (.cons (.ret (.call "factor_of" F_factor_of (.cons (.var 0) (.cons (.var 1) (.cons (.var 2) (.nil)))))) (.nil))))
def n_factor : Nat := 3
def m_factor : List D → Option Out := evFn 0 [false, false, false] 3 b_factor
def F_factor : Fn := ⟨[false, false, false], m_factor⟩
def cFar : Int := 10000000000000000000000000000000000000000
/-- what factor answers -/
def facR (r s n : D) : Out := if inB r (-25) 1 = false then .exc (xBound "root") else if isPos s = false then .exc (xBound "start") else if inB n 0 cFar = false then .exc (xBound "n") else
  match r, s, n with
    | .int r, .int s, .int n => .ret (frD (facI r s n.toNat)) []
    | _, _, _ => .exc (xBound "n")
theorem factor_eq {r s n : D} (hr : ask1 r = true) (hs : ask1 s = true) (hn : ask1 n = true) (hb : ∀ i, s = .int i → i.natAbs < 2 ^ 134) : m_factor [r, s, n] = some (facR r s n) := by
  have ur := ask1_un hr
  have us := ask1_un hs
  have un := ask1_un hn
  have zr := ask1_fz hr
  have zs := ask1_fz hs
  have zn := ask1_fz hn
  have l0 : res [r, s, n] (.loc 0) = r := by rw [res_loc rfl, zr]
  have l1 : res [r, s, n] (.loc 1) = s := by rw [res_loc rfl, zs]
  have l2 : res [r, s, n] (.loc 2) = n := by rw [res_loc rfl, zn]
  unfold m_factor evFn b_factor facR
  by_cases c1 : inB r (-25) 1 = true
  · have e1 := btw_ok (rs := [r, s, n]) (A := .loc 0) (nm := "root") l0 hr c1
    by_cases c2 : isPos s = true
    · have e2 := from_ok (rs := [r, s, n]) (A := .loc 1) l1 hs c2
      by_cases c3 : inB n 0 cFar = true
      · have e3 := btw_ok (rs := [r, s, n]) (A := .loc 2) (nm := "n") l2 hn c3
        obtain ⟨i, rfl⟩ : ∃ i, r = .int i := by cases r <;> first | exact ⟨_, rfl⟩ | (simp [inB] at c1)
        obtain ⟨j, rfl⟩ : ∃ i, s = .int i := by cases s <;> first | exact ⟨_, rfl⟩ | (simp [isPos] at c2)
        obtain ⟨k, rfl⟩ : ∃ i, n = .int i := by cases n <;> first | exact ⟨_, rfl⟩ | (simp [inB] at c3)
        have hf : facOk i j k = true := by
          have b1 := hb j rfl
          simp only [inB, isPos, Bool.and_eq_true, decide_eq_true_eq, cFar] at c1 c2 c3
          simp only [facOk, Bool.and_eq_true, decide_eq_true_eq]
          obtain ⟨c31, c32⟩ := c3
          have c32 := of_decide_eq_true c32
          refine ⟨c1, ⟨c2, b1⟩, c31, ?_⟩
          have q : k.natAbs ≤ 10000000000000000000000000000000000000000 := by omega
          exact Nat.lt_of_le_of_lt q (by decide)
        have e4 : callD F_factor_of [.loc 0, .loc 1, .loc 2] [.int i, .int j, .int k] = some (.ok (frD (facI i j k.toNat)) [.int i, .int j, .int k]) := call_v3 (by
          show m_factor_of [.int i, .int j, .int k] = _
          simp only [m_factor_of, hf, if_true]) rfl
        unfold cFar at e3 c3
        simp -implicitDefEqProofs only [evS, evT, evE, evP, evPs, evV, evA, evAnd, evOr, evI, Pv.a0, Pv.a1, Pv.v0, Pv.v1, opd, slotOf, satOp, Pv.two, Pv.one, ob_s, ob_n, sc_int, sc_bl, sc_str, sc_non, bd_ok, bd_exc, thenE_ok, thenE_exc, thenT_ok, thenT_exc, thenA_ok, thenI_ok, fl_nx, fl_ret, fl_exc, fl_bk, fl_ct, fl_nil, evSs_nil, asBl, asInt, un_non, un_bl, un_int, un_str, un_tup, un_lst, un_obj, un_un, fz, fzs, isSc, isScs, isFz, isFzs, isOwn, isOwns, dNeg, dT, tgA, setAll, okS, res, at2, it_tup, it_lst, chnD, lItems, tmps, cpyLoc, cpyTmp, ixTmp, ioPos, outFl, outsOf, fzs_ints, Pv.sto1, Pv.sto2, ownItems, at2_0, at2_1, at3_0, at3_1, at3_2, at4_0, at4_1, at4_2, at4_3, ix_20, ix_21, ix_40, ix_41, ix_42, ix_43, List.length_map, isFzs, d2_add, d2_sub, d2_lt, d2_le, d2_gt, d2_ge, d2_eq, d2_ne, d2_eqs, d2_eqb, d2_isn_non, d2_isn_int, d2_isn_bl, d2_isn_str, d2_isn_tup, d2_isn_lst, d2_notn_non, d2_notn_int, d2_notn_bl, d2_notn_str, d2_notn_tup, d2_notn_lst, d2_mod, d2_fdiv, Int.reduceToNat, Int.reducePow, Int.reduceEq, Int.reduceLT, Int.reduceLE, Int.reduceNeg, Int.reduceMul, Int.reduceAdd, Int.reduceSub, cst0, cst1, cst2, cst3, cst4, cst5, cst6, cst7, cst8, cst9, cst10, cst11, cst12, ne_eq, not_false_eq_true, not_true_eq_false, dF_gcd, dF_lenL, dF_lenT, dF_int, dF_intb, dF_abs, dF_min, dF_max, dI_ii, dI_ib, dI_is, dI_il, dI_it, dI_bi, dI_bb, dI_bs, dI_bl, dI_bt, dI_si, dI_sb, dI_ss, dI_sl, dI_st, dI_li, dI_lb, dI_ls, dI_ll, dI_lt, dI_ti, dI_tb, dI_ts, dI_tl, dI_tt, dI_ni, dI_nb, dI_ns, dI_nl, dI_nt, Option.map_some, List.length_cons, List.length_nil, List.getElem?_cons_zero, List.getElem?_cons_succ, List.getElem?_nil, List.set_cons_zero, List.set_cons_succ, List.set_nil, List.map_cons, List.map_nil, List.cons_append, List.nil_append, List.append_nil, List.replicate, List.getD_cons_zero, List.getD_cons_succ, List.contains_nil, List.contains_cons, Nat.reduceBEq, Bool.or_false, Bool.false_or, Bool.or_self, Bool.or_true, Bool.true_or, List.isEmpty_nil, List.isEmpty_cons, decide_true, decide_false, if_true, if_false, Bool.false_eq_true, Bool.not_true, Bool.not_false, Bool.and_true, Bool.true_and, Bool.and_self, Bool.and_false, Bool.false_and, reduceIte, Nat.zero_add, Nat.reduceAdd, Nat.reduceSub, Nat.reduceLT, Nat.reduceLeDiff, Nat.reduceEqDiff, decide_eq_true_eq, eq_self, Option.some.injEq, reduceCtorEq, Nat.lt_irrefl, evSs_cons, e1, e2, e3, e4, c1, c2, c3, frD, cFar]
      · have c3 : inB n 0 cFar = false := by simpa using c3
        have e3 := btw_no (rs := [r, s, n]) (A := .loc 2) (nm := "n") l2 hn c3
        unfold cFar at e3 c3
        simp -implicitDefEqProofs only [evS, evT, evE, evP, evPs, evV, evA, evAnd, evOr, evI, Pv.a0, Pv.a1, Pv.v0, Pv.v1, opd, slotOf, satOp, Pv.two, Pv.one, ob_s, ob_n, sc_int, sc_bl, sc_str, sc_non, bd_ok, bd_exc, thenE_ok, thenE_exc, thenT_ok, thenT_exc, thenA_ok, thenI_ok, fl_nx, fl_ret, fl_exc, fl_bk, fl_ct, fl_nil, evSs_nil, asBl, asInt, un_non, un_bl, un_int, un_str, un_tup, un_lst, un_obj, un_un, fz, fzs, isSc, isScs, isFz, isFzs, isOwn, isOwns, dNeg, dT, tgA, setAll, okS, res, at2, it_tup, it_lst, chnD, lItems, tmps, cpyLoc, cpyTmp, ixTmp, ioPos, outFl, outsOf, fzs_ints, Pv.sto1, Pv.sto2, ownItems, at2_0, at2_1, at3_0, at3_1, at3_2, at4_0, at4_1, at4_2, at4_3, ix_20, ix_21, ix_40, ix_41, ix_42, ix_43, List.length_map, isFzs, d2_add, d2_sub, d2_lt, d2_le, d2_gt, d2_ge, d2_eq, d2_ne, d2_eqs, d2_eqb, d2_isn_non, d2_isn_int, d2_isn_bl, d2_isn_str, d2_isn_tup, d2_isn_lst, d2_notn_non, d2_notn_int, d2_notn_bl, d2_notn_str, d2_notn_tup, d2_notn_lst, d2_mod, d2_fdiv, Int.reduceToNat, Int.reducePow, Int.reduceEq, Int.reduceLT, Int.reduceLE, Int.reduceNeg, Int.reduceMul, Int.reduceAdd, Int.reduceSub, cst0, cst1, cst2, cst3, cst4, cst5, cst6, cst7, cst8, cst9, cst10, cst11, cst12, ne_eq, not_false_eq_true, not_true_eq_false, dF_gcd, dF_lenL, dF_lenT, dF_int, dF_intb, dF_abs, dF_min, dF_max, dI_ii, dI_ib, dI_is, dI_il, dI_it, dI_bi, dI_bb, dI_bs, dI_bl, dI_bt, dI_si, dI_sb, dI_ss, dI_sl, dI_st, dI_li, dI_lb, dI_ls, dI_ll, dI_lt, dI_ti, dI_tb, dI_ts, dI_tl, dI_tt, dI_ni, dI_nb, dI_ns, dI_nl, dI_nt, Option.map_some, List.length_cons, List.length_nil, List.getElem?_cons_zero, List.getElem?_cons_succ, List.getElem?_nil, List.set_cons_zero, List.set_cons_succ, List.set_nil, List.map_cons, List.map_nil, List.cons_append, List.nil_append, List.append_nil, List.replicate, List.getD_cons_zero, List.getD_cons_succ, List.contains_nil, List.contains_cons, Nat.reduceBEq, Bool.or_false, Bool.false_or, Bool.or_self, Bool.or_true, Bool.true_or, List.isEmpty_nil, List.isEmpty_cons, decide_true, decide_false, if_true, if_false, Bool.false_eq_true, Bool.not_true, Bool.not_false, Bool.and_true, Bool.true_and, Bool.and_self, Bool.and_false, Bool.false_and, reduceIte, Nat.zero_add, Nat.reduceAdd, Nat.reduceSub, Nat.reduceLT, Nat.reduceLeDiff, Nat.reduceEqDiff, decide_eq_true_eq, eq_self, Option.some.injEq, reduceCtorEq, Nat.lt_irrefl, evSs_cons, e1, e2, e3, c1, c2, c3, ur, us, un, zr, zs, zn, cFar]
    · have c2 : isPos s = false := by simpa using c2
      have e2 := from_no (rs := [r, s, n]) (A := .loc 1) l1 hs c2
      simp -implicitDefEqProofs only [evS, evT, evE, evP, evPs, evV, evA, evAnd, evOr, evI, Pv.a0, Pv.a1, Pv.v0, Pv.v1, opd, slotOf, satOp, Pv.two, Pv.one, ob_s, ob_n, sc_int, sc_bl, sc_str, sc_non, bd_ok, bd_exc, thenE_ok, thenE_exc, thenT_ok, thenT_exc, thenA_ok, thenI_ok, fl_nx, fl_ret, fl_exc, fl_bk, fl_ct, fl_nil, evSs_nil, asBl, asInt, un_non, un_bl, un_int, un_str, un_tup, un_lst, un_obj, un_un, fz, fzs, isSc, isScs, isFz, isFzs, isOwn, isOwns, dNeg, dT, tgA, setAll, okS, res, at2, it_tup, it_lst, chnD, lItems, tmps, cpyLoc, cpyTmp, ixTmp, ioPos, outFl, outsOf, fzs_ints, Pv.sto1, Pv.sto2, ownItems, at2_0, at2_1, at3_0, at3_1, at3_2, at4_0, at4_1, at4_2, at4_3, ix_20, ix_21, ix_40, ix_41, ix_42, ix_43, List.length_map, isFzs, d2_add, d2_sub, d2_lt, d2_le, d2_gt, d2_ge, d2_eq, d2_ne, d2_eqs, d2_eqb, d2_isn_non, d2_isn_int, d2_isn_bl, d2_isn_str, d2_isn_tup, d2_isn_lst, d2_notn_non, d2_notn_int, d2_notn_bl, d2_notn_str, d2_notn_tup, d2_notn_lst, d2_mod, d2_fdiv, Int.reduceToNat, Int.reducePow, Int.reduceEq, Int.reduceLT, Int.reduceLE, Int.reduceNeg, Int.reduceMul, Int.reduceAdd, Int.reduceSub, cst0, cst1, cst2, cst3, cst4, cst5, cst6, cst7, cst8, cst9, cst10, cst11, cst12, ne_eq, not_false_eq_true, not_true_eq_false, dF_gcd, dF_lenL, dF_lenT, dF_int, dF_intb, dF_abs, dF_min, dF_max, dI_ii, dI_ib, dI_is, dI_il, dI_it, dI_bi, dI_bb, dI_bs, dI_bl, dI_bt, dI_si, dI_sb, dI_ss, dI_sl, dI_st, dI_li, dI_lb, dI_ls, dI_ll, dI_lt, dI_ti, dI_tb, dI_ts, dI_tl, dI_tt, dI_ni, dI_nb, dI_ns, dI_nl, dI_nt, Option.map_some, List.length_cons, List.length_nil, List.getElem?_cons_zero, List.getElem?_cons_succ, List.getElem?_nil, List.set_cons_zero, List.set_cons_succ, List.set_nil, List.map_cons, List.map_nil, List.cons_append, List.nil_append, List.append_nil, List.replicate, List.getD_cons_zero, List.getD_cons_succ, List.contains_nil, List.contains_cons, Nat.reduceBEq, Bool.or_false, Bool.false_or, Bool.or_self, Bool.or_true, Bool.true_or, List.isEmpty_nil, List.isEmpty_cons, decide_true, decide_false, if_true, if_false, Bool.false_eq_true, Bool.not_true, Bool.not_false, Bool.and_true, Bool.true_and, Bool.and_self, Bool.and_false, Bool.false_and, reduceIte, Nat.zero_add, Nat.reduceAdd, Nat.reduceSub, Nat.reduceLT, Nat.reduceLeDiff, Nat.reduceEqDiff, decide_eq_true_eq, eq_self, Option.some.injEq, reduceCtorEq, Nat.lt_irrefl, evSs_cons, e1, e2, c1, c2, ur, us, zr, zs]
  · have c1 : inB r (-25) 1 = false := by simpa using c1
    have e1 := btw_no (rs := [r, s, n]) (A := .loc 0) (nm := "root") l0 hr c1
    simp -implicitDefEqProofs only [evS, evT, evE, evP, evPs, evV, evA, evAnd, evOr, evI, Pv.a0, Pv.a1, Pv.v0, Pv.v1, opd, slotOf, satOp, Pv.two, Pv.one, ob_s, ob_n, sc_int, sc_bl, sc_str, sc_non, bd_ok, bd_exc, thenE_ok, thenE_exc, thenT_ok, thenT_exc, thenA_ok, thenI_ok, fl_nx, fl_ret, fl_exc, fl_bk, fl_ct, fl_nil, evSs_nil, asBl, asInt, un_non, un_bl, un_int, un_str, un_tup, un_lst, un_obj, un_un, fz, fzs, isSc, isScs, isFz, isFzs, isOwn, isOwns, dNeg, dT, tgA, setAll, okS, res, at2, it_tup, it_lst, chnD, lItems, tmps, cpyLoc, cpyTmp, ixTmp, ioPos, outFl, outsOf, fzs_ints, Pv.sto1, Pv.sto2, ownItems, at2_0, at2_1, at3_0, at3_1, at3_2, at4_0, at4_1, at4_2, at4_3, ix_20, ix_21, ix_40, ix_41, ix_42, ix_43, List.length_map, isFzs, d2_add, d2_sub, d2_lt, d2_le, d2_gt, d2_ge, d2_eq, d2_ne, d2_eqs, d2_eqb, d2_isn_non, d2_isn_int, d2_isn_bl, d2_isn_str, d2_isn_tup, d2_isn_lst, d2_notn_non, d2_notn_int, d2_notn_bl, d2_notn_str, d2_notn_tup, d2_notn_lst, d2_mod, d2_fdiv, Int.reduceToNat, Int.reducePow, Int.reduceEq, Int.reduceLT, Int.reduceLE, Int.reduceNeg, Int.reduceMul, Int.reduceAdd, Int.reduceSub, cst0, cst1, cst2, cst3, cst4, cst5, cst6, cst7, cst8, cst9, cst10, cst11, cst12, ne_eq, not_false_eq_true, not_true_eq_false, dF_gcd, dF_lenL, dF_lenT, dF_int, dF_intb, dF_abs, dF_min, dF_max, dI_ii, dI_ib, dI_is, dI_il, dI_it, dI_bi, dI_bb, dI_bs, dI_bl, dI_bt, dI_si, dI_sb, dI_ss, dI_sl, dI_st, dI_li, dI_lb, dI_ls, dI_ll, dI_lt, dI_ti, dI_tb, dI_ts, dI_tl, dI_tt, dI_ni, dI_nb, dI_ns, dI_nl, dI_nt, Option.map_some, List.length_cons, List.length_nil, List.getElem?_cons_zero, List.getElem?_cons_succ, List.getElem?_nil, List.set_cons_zero, List.set_cons_succ, List.set_nil, List.map_cons, List.map_nil, List.cons_append, List.nil_append, List.append_nil, List.replicate, List.getD_cons_zero, List.getD_cons_succ, List.contains_nil, List.contains_cons, Nat.reduceBEq, Bool.or_false, Bool.false_or, Bool.or_self, Bool.or_true, Bool.true_or, List.isEmpty_nil, List.isEmpty_cons, decide_true, decide_false, if_true, if_false, Bool.false_eq_true, Bool.not_true, Bool.not_false, Bool.and_true, Bool.true_and, Bool.and_self, Bool.and_false, Bool.false_and, reduceIte, Nat.zero_add, Nat.reduceAdd, Nat.reduceSub, Nat.reduceLT, Nat.reduceLeDiff, Nat.reduceEqDiff, decide_eq_true_eq, eq_self, Option.some.injEq, reduceCtorEq, Nat.lt_irrefl, evSs_cons, e1, c1, ur, zr]
def b_L_asked : Ss := .cons (.tryR xcs xfs xbs (.cons (.ret (.tup (.cons (.con (.str "told")) (.cons (.call "factor" F_factor (.cons (.var 0) (.cons (.var 1) (.cons (.var 2) (.nil))))) (.nil))))) (.nil)) [⟨"InvalidBound", some 3, .tup [.con (.str "refused"), .fld "name"]⟩]) (.nil)
def n_L_asked : Nat := 4
def m_L_asked : List D → Option Out := evFn 0 [false, false, false] 4 b_L_asked
def F_L_asked : Fn := ⟨[false, false, false], m_L_asked⟩
def askD : Out → D
  | .ret d _ => .tup [.str "told", d]
  | .exc x => .tup (.str "refused" :: x.xs)
theorem ask_eq {r s n : D} (hr : ask1 r = true) (hs : ask1 s = true) (hn : ask1 n = true) (hb : ∀ i, s = .int i → i.natAbs < 2 ^ 134) : m_L_asked [r, s, n] = some (.ret (askD (facR r s n)) []) := by
  have ur := ask1_un hr
  have us := ask1_un hs
  have un := ask1_un hn
  have zr := ask1_fz hr
  have zs := ask1_fz hs
  have zn := ask1_fz hn
  have hm := factor_eq hr hs hn hb
  have l0 : res [r, s, n, .un] (.loc 0) = r := by rw [res_loc rfl, zr]
  have l1 : res [r, s, n, .un] (.loc 1) = s := by rw [res_loc rfl, zs]
  have l2 : res [r, s, n, .un] (.loc 2) = n := by rw [res_loc rfl, zn]
  have hx : (∃ nm, facR r s n = .exc (xBound nm)) ∨ ∃ p, facR r s n = .ret (frD p) [] := by
    unfold facR
    split
    · exact .inl ⟨_, rfl⟩
    split
    · exact .inl ⟨_, rfl⟩
    split
    · exact .inl ⟨_, rfl⟩
    split
    · exact .inr ⟨_, rfl⟩
    · exact .inl ⟨_, rfl⟩
  unfold m_L_asked evFn b_L_asked
  rcases hx with ⟨nm, hx⟩ | ⟨p, hx⟩
  · rw [hx] at hm ⊢
    have e : callD F_factor [.loc 0, .loc 1, .loc 2] [r, s, n, .un] = some (.exc (xBound nm) [r, s, n, .un]) := by
      show callD ⟨[false, false, false], m_factor⟩ _ _ = _
      simp only [callD, ioOf, nodupB, passD, blank, l0, l1, l2, hm, List.isEmpty_nil, if_true]
    simp -implicitDefEqProofs only [evS, evT, evE, evP, evPs, evV, evA, evAnd, evOr, evI, Pv.a0, Pv.a1, Pv.v0, Pv.v1, opd, slotOf, satOp, Pv.two, Pv.one, ob_s, ob_n, sc_int, sc_bl, sc_str, sc_non, bd_ok, bd_exc, thenE_ok, thenE_exc, thenT_ok, thenT_exc, thenA_ok, thenI_ok, fl_nx, fl_ret, fl_exc, fl_bk, fl_ct, fl_nil, evSs_nil, asBl, asInt, un_non, un_bl, un_int, un_str, un_tup, un_lst, un_obj, un_un, fz, fzs, isSc, isScs, isFz, isFzs, isOwn, isOwns, dNeg, dT, tgA, setAll, okS, res, at2, it_tup, it_lst, chnD, lItems, tmps, cpyLoc, cpyTmp, ixTmp, ioPos, outFl, outsOf, fzs_ints, Pv.sto1, Pv.sto2, ownItems, at2_0, at2_1, at3_0, at3_1, at3_2, at4_0, at4_1, at4_2, at4_3, ix_20, ix_21, ix_40, ix_41, ix_42, ix_43, List.length_map, isFzs, d2_add, d2_sub, d2_lt, d2_le, d2_gt, d2_ge, d2_eq, d2_ne, d2_eqs, d2_eqb, d2_isn_non, d2_isn_int, d2_isn_bl, d2_isn_str, d2_isn_tup, d2_isn_lst, d2_notn_non, d2_notn_int, d2_notn_bl, d2_notn_str, d2_notn_tup, d2_notn_lst, d2_mod, d2_fdiv, Int.reduceToNat, Int.reducePow, Int.reduceEq, Int.reduceLT, Int.reduceLE, Int.reduceNeg, Int.reduceMul, Int.reduceAdd, Int.reduceSub, cst0, cst1, cst2, cst3, cst4, cst5, cst6, cst7, cst8, cst9, cst10, cst11, cst12, ne_eq, not_false_eq_true, not_true_eq_false, dF_gcd, dF_lenL, dF_lenT, dF_int, dF_intb, dF_abs, dF_min, dF_max, dI_ii, dI_ib, dI_is, dI_il, dI_it, dI_bi, dI_bb, dI_bs, dI_bl, dI_bt, dI_si, dI_sb, dI_ss, dI_sl, dI_st, dI_li, dI_lb, dI_ls, dI_ll, dI_lt, dI_ti, dI_tb, dI_ts, dI_tl, dI_tt, dI_ni, dI_nb, dI_ns, dI_nl, dI_nt, Option.map_some, List.length_cons, List.length_nil, List.getElem?_cons_zero, List.getElem?_cons_succ, List.getElem?_nil, List.set_cons_zero, List.set_cons_succ, List.set_nil, List.map_cons, List.map_nil, List.cons_append, List.nil_append, List.append_nil, List.replicate, List.getD_cons_zero, List.getD_cons_succ, List.contains_nil, List.contains_cons, Nat.reduceBEq, Bool.or_false, Bool.false_or, Bool.or_self, Bool.or_true, Bool.true_or, List.isEmpty_nil, List.isEmpty_cons, decide_true, decide_false, if_true, if_false, Bool.false_eq_true, Bool.not_true, Bool.not_false, Bool.and_true, Bool.true_and, Bool.and_self, Bool.and_false, Bool.false_and, reduceIte, Nat.zero_add, Nat.reduceAdd, Nat.reduceSub, Nat.reduceLT, Nat.reduceLeDiff, Nat.reduceEqDiff, decide_eq_true_eq, eq_self, Option.some.injEq, reduceCtorEq, Nat.lt_irrefl, evSs_cons, ur, us, un, zr, zs, zn, e, tryD]
    rfl
  · rw [hx] at hm ⊢
    have e : callD F_factor [.loc 0, .loc 1, .loc 2] [r, s, n, .un] = some (.ok (frD p) [r, s, n, .un]) := call_v3 (by rw [l0, l1, l2]; exact hm) rfl
    simp -implicitDefEqProofs only [evS, evT, evE, evP, evPs, evV, evA, evAnd, evOr, evI, Pv.a0, Pv.a1, Pv.v0, Pv.v1, opd, slotOf, satOp, Pv.two, Pv.one, ob_s, ob_n, sc_int, sc_bl, sc_str, sc_non, bd_ok, bd_exc, thenE_ok, thenE_exc, thenT_ok, thenT_exc, thenA_ok, thenI_ok, fl_nx, fl_ret, fl_exc, fl_bk, fl_ct, fl_nil, evSs_nil, asBl, asInt, un_non, un_bl, un_int, un_str, un_tup, un_lst, un_obj, un_un, fz, fzs, isSc, isScs, isFz, isFzs, isOwn, isOwns, dNeg, dT, tgA, setAll, okS, res, at2, it_tup, it_lst, chnD, lItems, tmps, cpyLoc, cpyTmp, ixTmp, ioPos, outFl, outsOf, fzs_ints, Pv.sto1, Pv.sto2, ownItems, at2_0, at2_1, at3_0, at3_1, at3_2, at4_0, at4_1, at4_2, at4_3, ix_20, ix_21, ix_40, ix_41, ix_42, ix_43, List.length_map, isFzs, d2_add, d2_sub, d2_lt, d2_le, d2_gt, d2_ge, d2_eq, d2_ne, d2_eqs, d2_eqb, d2_isn_non, d2_isn_int, d2_isn_bl, d2_isn_str, d2_isn_tup, d2_isn_lst, d2_notn_non, d2_notn_int, d2_notn_bl, d2_notn_str, d2_notn_tup, d2_notn_lst, d2_mod, d2_fdiv, Int.reduceToNat, Int.reducePow, Int.reduceEq, Int.reduceLT, Int.reduceLE, Int.reduceNeg, Int.reduceMul, Int.reduceAdd, Int.reduceSub, cst0, cst1, cst2, cst3, cst4, cst5, cst6, cst7, cst8, cst9, cst10, cst11, cst12, ne_eq, not_false_eq_true, not_true_eq_false, dF_gcd, dF_lenL, dF_lenT, dF_int, dF_intb, dF_abs, dF_min, dF_max, dI_ii, dI_ib, dI_is, dI_il, dI_it, dI_bi, dI_bb, dI_bs, dI_bl, dI_bt, dI_si, dI_sb, dI_ss, dI_sl, dI_st, dI_li, dI_lb, dI_ls, dI_ll, dI_lt, dI_ti, dI_tb, dI_ts, dI_tl, dI_tt, dI_ni, dI_nb, dI_ns, dI_nl, dI_nt, Option.map_some, List.length_cons, List.length_nil, List.getElem?_cons_zero, List.getElem?_cons_succ, List.getElem?_nil, List.set_cons_zero, List.set_cons_succ, List.set_nil, List.map_cons, List.map_nil, List.cons_append, List.nil_append, List.append_nil, List.replicate, List.getD_cons_zero, List.getD_cons_succ, List.contains_nil, List.contains_cons, Nat.reduceBEq, Bool.or_false, Bool.false_or, Bool.or_self, Bool.or_true, Bool.true_or, List.isEmpty_nil, List.isEmpty_cons, decide_true, decide_false, if_true, if_false, Bool.false_eq_true, Bool.not_true, Bool.not_false, Bool.and_true, Bool.true_and, Bool.and_self, Bool.and_false, Bool.false_and, reduceIte, Nat.zero_add, Nat.reduceAdd, Nat.reduceSub, Nat.reduceLT, Nat.reduceLeDiff, Nat.reduceEqDiff, decide_eq_true_eq, eq_self, Option.some.injEq, reduceCtorEq, Nat.lt_irrefl, evSs_cons, ur, us, un, zr, zs, zn, e, tryD, frD, askD]
def b_L_is_fraction : Ss := .cons (.ite (.lor (.cons (.lnot (.pk (.isi (.var 0) "tuple"))) (.cons (.pk (.op2 .ne (.fnc .len (.cons (.var 0) (.nil))) (.con (.int 2)))) (.nil)))) (.cons (.ret (.con (.bl false))) (.nil)) (.nil)) (.cons (.ite (.lor (.cons (.lnot (.call "_law_is_int" F_L_is_int (.cons (.ix (.var 0) (.con (.int 0))) (.nil)))) (.cons (.lnot (.call "_law_is_int" F_L_is_int (.cons (.ix (.var 0) (.con (.int 1))) (.nil)))) (.cons (.pk (.op2 .lt (.ix (.var 0) (.con (.int 1))) (.con (.int 1)))) (.nil))))) (.cons (.ret (.con (.bl false))) (.nil)) (.nil)) (.cons (.ret (.op2 .eq (.call "_law_gcd" F_L_gcd (.cons (.pk (.fnc .abs (.cons (.ix (.var 0) (.con (.int 0))) (.nil)))) (.cons (.ix (.var 0) (.con (.int 1))) (.nil)))) (.con (.int 1)))) (.nil)))
def n_L_is_fraction : Nat := 1
def m_L_is_fraction : List D → Option Out := evFn 0 [false] 1 b_L_is_fraction
def F_L_is_fraction : Fn := ⟨[false], m_L_is_fraction⟩
theorem isf_eq {p : Int × Int} (hp : 1 ≤ p.2) (hc : Nat.Coprime p.1.natAbs p.2.natAbs) : m_L_is_fraction [frD p] = some (.ret (.bl true) []) := by
  have e1 : ∀ i, callD F_L_is_int [.tmp (.int i)] [.tup [.int p.1, .int p.2]] = some (.ok (.bl true) [.tup [.int p.1, .int p.2]]) := fun i => call_v1 (by rfl) rfl
  have hg : callD F_L_gcd [.tmp (.int (p.1.natAbs : Int)), .tmp (.int p.2)] [.tup [.int p.1, .int p.2]] = some (.ok (.int 1) [.tup [.int p.1, .int p.2]]) := call_v2 (by
    show m_gcd [.int _, .int _] = _
    have e : Nat.gcd p.1.natAbs p.2.natAbs = 1 := hc
    simp only [m_gcd, Int.natAbs_natCast, e]
    rw [if_pos ⟨by omega, by omega⟩]
    rfl) rfl
  have ab : (if p.1 < 0 then -p.1 else p.1) = (p.1.natAbs : Int) := by split <;> omega
  have c : ¬ p.2 < 1 := by omega
  unfold m_L_is_fraction evFn b_L_is_fraction frD
  simp -implicitDefEqProofs only [evS, evT, evE, evP, evPs, evV, evA, evAnd, evOr, evI, Pv.a0, Pv.a1, Pv.v0, Pv.v1, opd, slotOf, satOp, Pv.two, Pv.one, ob_s, ob_n, sc_int, sc_bl, sc_str, sc_non, bd_ok, bd_exc, thenE_ok, thenE_exc, thenT_ok, thenT_exc, thenA_ok, thenI_ok, fl_nx, fl_ret, fl_exc, fl_bk, fl_ct, fl_nil, evSs_nil, asBl, asInt, un_non, un_bl, un_int, un_str, un_tup, un_lst, un_obj, un_un, fz, fzs, isSc, isScs, isFz, isFzs, isOwn, isOwns, dNeg, dT, tgA, setAll, okS, res, at2, it_tup, it_lst, chnD, lItems, tmps, cpyLoc, cpyTmp, ixTmp, ioPos, outFl, outsOf, fzs_ints, Pv.sto1, Pv.sto2, ownItems, at2_0, at2_1, at3_0, at3_1, at3_2, at4_0, at4_1, at4_2, at4_3, ix_20, ix_21, ix_40, ix_41, ix_42, ix_43, List.length_map, isFzs, d2_add, d2_sub, d2_lt, d2_le, d2_gt, d2_ge, d2_eq, d2_ne, d2_eqs, d2_eqb, d2_isn_non, d2_isn_int, d2_isn_bl, d2_isn_str, d2_isn_tup, d2_isn_lst, d2_notn_non, d2_notn_int, d2_notn_bl, d2_notn_str, d2_notn_tup, d2_notn_lst, d2_mod, d2_fdiv, Int.reduceToNat, Int.reducePow, Int.reduceEq, Int.reduceLT, Int.reduceLE, Int.reduceNeg, Int.reduceMul, Int.reduceAdd, Int.reduceSub, cst0, cst1, cst2, cst3, cst4, cst5, cst6, cst7, cst8, cst9, cst10, cst11, cst12, ne_eq, not_false_eq_true, not_true_eq_false, dF_gcd, dF_lenL, dF_lenT, dF_int, dF_intb, dF_abs, dF_min, dF_max, dI_ii, dI_ib, dI_is, dI_il, dI_it, dI_bi, dI_bb, dI_bs, dI_bl, dI_bt, dI_si, dI_sb, dI_ss, dI_sl, dI_st, dI_li, dI_lb, dI_ls, dI_ll, dI_lt, dI_ti, dI_tb, dI_ts, dI_tl, dI_tt, dI_ni, dI_nb, dI_ns, dI_nl, dI_nt, Option.map_some, List.length_cons, List.length_nil, List.getElem?_cons_zero, List.getElem?_cons_succ, List.getElem?_nil, List.set_cons_zero, List.set_cons_succ, List.set_nil, List.map_cons, List.map_nil, List.cons_append, List.nil_append, List.append_nil, List.replicate, List.getD_cons_zero, List.getD_cons_succ, List.contains_nil, List.contains_cons, Nat.reduceBEq, Bool.or_false, Bool.false_or, Bool.or_self, Bool.or_true, Bool.true_or, List.isEmpty_nil, List.isEmpty_cons, decide_true, decide_false, if_true, if_false, Bool.false_eq_true, Bool.not_true, Bool.not_false, Bool.and_true, Bool.true_and, Bool.and_self, Bool.and_false, Bool.false_and, reduceIte, Nat.zero_add, Nat.reduceAdd, Nat.reduceSub, Nat.reduceLT, Nat.reduceLeDiff, Nat.reduceEqDiff, decide_eq_true_eq, eq_self, Option.some.injEq, reduceCtorEq, Nat.lt_irrefl, evSs_cons, ixLoc, e1, c, ab, hg]
def b_L_index : Ss := .cons (.ite (.op2 .gt (.call "_law_pull" F_L_pull (.cons (.var 0) (.cons (.con (.int 3)) (.nil)))) (.con (.int 0))) (.cons (.ret (.lst (.cons (.call "_law_pull" F_L_pull (.cons (.var 0) (.cons (.pk (.op2 .add (.var 1) (.con (.int 1)))) (.nil)))) (.cons (.con (.bl true)) (.nil))))) (.nil)) (.nil)) (.cons (.asg (.nm 2) (.lst (.cons (.pk (.neg (.con (.int 1)))) (.cons (.pk (.op2 .add (.var 1) (.con (.int 1)))) (.cons (.con (.bl true)) (.cons (.con (.bl false)) (.cons (.con (.non)) (.cons (.con (.str "0")) (.cons (.tup (.cons (.con (.int 0)) (.cons (.con (.int 1)) (.nil)))) (.cons (.lst (.cons (.con (.int 0)) (.nil))) (.cons (.pk (.op2 .add (.op2 .pow (.con (.int 10)) (.con (.int 39))) (.var 1))) (.nil)))))))))))) (.cons (.ret (.lst (.cons (.ix (.var 2) (.call "_law_pull" F_L_pull (.cons (.var 0) (.cons (.con (.int 9)) (.nil))))) (.cons (.con (.bl false)) (.nil))))) (.nil)))
def n_L_index : Nat := 3
def m_L_index : List D → Option Out := evFn 0 [true, false] 3 b_L_index
def F_L_index : Fn := ⟨[true, false], m_L_index⟩
/-- a drawn integer, or something else -/
def IdxP (most : Int) (v : D) (b : Bool) : Prop := isUn v = false ∧ ask1 (fz v) = true ∧ (b = true → ∃ i, v = .int i ∧ 0 ≤ i ∧ i ≤ most) ∧ (b = false → ∀ i, v = .int i → i = -1 ∨ most < i)
theorem index_ok {d : D} {most : Int} (h : StOk d) (hm : 0 ≤ most) (hm2 : most ≤ 1000) : ∃ v b d', StOk d' ∧ IdxP most v b ∧ m_L_index [d, .int most] = some (.ret (.lst true [v, .bl b]) [d']) := by
  obtain ⟨q, st1, h1, q0, q1, e1⟩ := call_pull (rs := [d, .int most, .un]) (s := 0) h (show (0 : Int) < 3 by decide) rfl
  unfold m_L_index evFn b_L_index
  by_cases c : 0 < q
  · obtain ⟨w, st2, h2, w0, w1, e2⟩ := call_pull (rs := [st1, .int most, .un]) (s := 0) (many := most + 1) h1 (by omega) rfl
    refine ⟨.int w, true, st2, h2, ⟨rfl, rfl, fun _ => ⟨w, rfl, w0, by omega⟩, fun z => (by cases z)⟩, ?_⟩
    simp -implicitDefEqProofs only [evS, evT, evE, evP, evPs, evV, evA, evAnd, evOr, evI, Pv.a0, Pv.a1, Pv.v0, Pv.v1, opd, slotOf, satOp, Pv.two, Pv.one, ob_s, ob_n, sc_int, sc_bl, sc_str, sc_non, bd_ok, bd_exc, thenE_ok, thenE_exc, thenT_ok, thenT_exc, thenA_ok, thenI_ok, fl_nx, fl_ret, fl_exc, fl_bk, fl_ct, fl_nil, evSs_nil, asBl, asInt, un_non, un_bl, un_int, un_str, un_tup, un_lst, un_obj, un_un, fz, fzs, isSc, isScs, isFz, isFzs, isOwn, isOwns, dNeg, dT, tgA, setAll, okS, res, at2, it_tup, it_lst, chnD, lItems, tmps, cpyLoc, cpyTmp, ixTmp, ioPos, outFl, outsOf, fzs_ints, Pv.sto1, Pv.sto2, ownItems, at2_0, at2_1, at3_0, at3_1, at3_2, at4_0, at4_1, at4_2, at4_3, ix_20, ix_21, ix_40, ix_41, ix_42, ix_43, List.length_map, isFzs, d2_add, d2_sub, d2_lt, d2_le, d2_gt, d2_ge, d2_eq, d2_ne, d2_eqs, d2_eqb, d2_isn_non, d2_isn_int, d2_isn_bl, d2_isn_str, d2_isn_tup, d2_isn_lst, d2_notn_non, d2_notn_int, d2_notn_bl, d2_notn_str, d2_notn_tup, d2_notn_lst, d2_mod, d2_fdiv, Int.reduceToNat, Int.reducePow, Int.reduceEq, Int.reduceLT, Int.reduceLE, Int.reduceNeg, Int.reduceMul, Int.reduceAdd, Int.reduceSub, cst0, cst1, cst2, cst3, cst4, cst5, cst6, cst7, cst8, cst9, cst10, cst11, cst12, ne_eq, not_false_eq_true, not_true_eq_false, dF_gcd, dF_lenL, dF_lenT, dF_int, dF_intb, dF_abs, dF_min, dF_max, dI_ii, dI_ib, dI_is, dI_il, dI_it, dI_bi, dI_bb, dI_bs, dI_bl, dI_bt, dI_si, dI_sb, dI_ss, dI_sl, dI_st, dI_li, dI_lb, dI_ls, dI_ll, dI_lt, dI_ti, dI_tb, dI_ts, dI_tl, dI_tt, dI_ni, dI_nb, dI_ns, dI_nl, dI_nt, Option.map_some, List.length_cons, List.length_nil, List.getElem?_cons_zero, List.getElem?_cons_succ, List.getElem?_nil, List.set_cons_zero, List.set_cons_succ, List.set_nil, List.map_cons, List.map_nil, List.cons_append, List.nil_append, List.append_nil, List.replicate, List.getD_cons_zero, List.getD_cons_succ, List.contains_nil, List.contains_cons, Nat.reduceBEq, Bool.or_false, Bool.false_or, Bool.or_self, Bool.or_true, Bool.true_or, List.isEmpty_nil, List.isEmpty_cons, decide_true, decide_false, if_true, if_false, Bool.false_eq_true, Bool.not_true, Bool.not_false, Bool.and_true, Bool.true_and, Bool.and_self, Bool.and_false, Bool.false_and, reduceIte, Nat.zero_add, Nat.reduceAdd, Nat.reduceSub, Nat.reduceLT, Nat.reduceLeDiff, Nat.reduceEqDiff, decide_eq_true_eq, eq_self, Option.some.injEq, reduceCtorEq, Nat.lt_irrefl, evSs_cons, h.un, e1, c, h1.un, e2]
  · have pw : powOk 10 39 = true := by decide
    obtain ⟨w, st2, h2, w0, w1, e2⟩ := call_pull (rs := [st1, .int most, .lst true [.int (-1), .int (most + 1), .bl true, .bl false, .non, .str "0", .tup [.int 0, .int 1], .lst true [.int 0], .int (1000000000000000000000000000000000000000 + most)]]) (s := 0) (many := 9) h1 (by decide) rfl
    obtain ⟨j, rfl⟩ : ∃ j : Nat, w = (j : Int) := ⟨w.toNat, by omega⟩
    have hj : j < 9 := by omega
    have key : ∀ v : D, L2.atI [.int (-1), .int (most + 1), .bl true, .bl false, .non, .str "0", .tup [.int 0, .int 1], .lst true [.int 0], .int (1000000000000000000000000000000000000000 + most)] (j : Int) = some v → isUn v = false → ask1 (fz v) = true → (∀ i, fz v = .int i → i = -1 ∨ most < i) →
        ∃ v b d', StOk d' ∧ IdxP most v b ∧ ob (evSs 0 (ioPos 0 [true, false]) b_L_index ([d, .int most] ++ List.replicate (3 - [d, .int most].length) .un)) (outFl [true, false]) = some (.ret (.lst true [v, .bl b]) [d']) := by
      intro v ev hu ha hi
      refine ⟨fz v, false, st2, h2, ⟨by cases v <;> first | rfl | (cases hu), by rw [fz_fz]; exact ha, fun z => (by cases z), fun _ => hi⟩, ?_⟩
      have ei : ∀ x, ixLoc 2 (.int (j : Int)) [st2, x, .lst true [.int (-1), .int (most + 1), .bl true, .bl false, .non, .str "0", .tup [.int 0, .int 1], .lst true [.int 0], .int (1000000000000000000000000000000000000000 + most)]] = some (.ok (fz v) ([st2, x, .lst true [.int (-1), .int (most + 1), .bl true, .bl false, .non, .str "0", .tup [.int 0, .int 1], .lst true [.int 0], .int (1000000000000000000000000000000000000000 + most)]].set 2 (setAt (.lst true [.int (-1), .int (most + 1), .bl true, .bl false, .non, .str "0", .tup [.int 0, .int 1], .lst true [.int 0], .int (1000000000000000000000000000000000000000 + most)]) [.int (-1), .int (most + 1), .bl true, .bl false, .non, .str "0", .tup [.int 0, .int 1], .lst true [.int 0], .int (1000000000000000000000000000000000000000 + most)] (j : Int) (fz v)))) := fun x => ixLoc_at rfl rfl ev
      unfold b_L_index
      rw [evSs_cons]; simp -implicitDefEqProofs only [evS, evT, evE, evP, evPs, evV, evA, evAnd, evOr, evI, Pv.a0, Pv.a1, Pv.v0, Pv.v1, opd, slotOf, satOp, Pv.two, Pv.one, ob_s, ob_n, sc_int, sc_bl, sc_str, sc_non, bd_ok, bd_exc, thenE_ok, thenE_exc, thenT_ok, thenT_exc, thenA_ok, thenI_ok, fl_nx, fl_ret, fl_exc, fl_bk, fl_ct, fl_nil, evSs_nil, asBl, asInt, un_non, un_bl, un_int, un_str, un_tup, un_lst, un_obj, un_un, fz, fzs, isSc, isScs, isFz, isFzs, isOwn, isOwns, dNeg, dT, tgA, setAll, okS, res, at2, it_tup, it_lst, chnD, lItems, tmps, cpyLoc, cpyTmp, ixTmp, ioPos, outFl, outsOf, fzs_ints, Pv.sto1, Pv.sto2, ownItems, at2_0, at2_1, at3_0, at3_1, at3_2, at4_0, at4_1, at4_2, at4_3, ix_20, ix_21, ix_40, ix_41, ix_42, ix_43, List.length_map, isFzs, d2_add, d2_sub, d2_lt, d2_le, d2_gt, d2_ge, d2_eq, d2_ne, d2_eqs, d2_eqb, d2_isn_non, d2_isn_int, d2_isn_bl, d2_isn_str, d2_isn_tup, d2_isn_lst, d2_notn_non, d2_notn_int, d2_notn_bl, d2_notn_str, d2_notn_tup, d2_notn_lst, d2_mod, d2_fdiv, Int.reduceToNat, Int.reducePow, Int.reduceEq, Int.reduceLT, Int.reduceLE, Int.reduceNeg, Int.reduceMul, Int.reduceAdd, Int.reduceSub, cst0, cst1, cst2, cst3, cst4, cst5, cst6, cst7, cst8, cst9, cst10, cst11, cst12, ne_eq, not_false_eq_true, not_true_eq_false, dF_gcd, dF_lenL, dF_lenT, dF_int, dF_intb, dF_abs, dF_min, dF_max, dI_ii, dI_ib, dI_is, dI_il, dI_it, dI_bi, dI_bb, dI_bs, dI_bl, dI_bt, dI_si, dI_sb, dI_ss, dI_sl, dI_st, dI_li, dI_lb, dI_ls, dI_ll, dI_lt, dI_ti, dI_tb, dI_ts, dI_tl, dI_tt, dI_ni, dI_nb, dI_ns, dI_nl, dI_nt, Option.map_some, List.length_cons, List.length_nil, List.getElem?_cons_zero, List.getElem?_cons_succ, List.getElem?_nil, List.set_cons_zero, List.set_cons_succ, List.set_nil, List.map_cons, List.map_nil, List.cons_append, List.nil_append, List.append_nil, List.replicate, List.getD_cons_zero, List.getD_cons_succ, List.contains_nil, List.contains_cons, Nat.reduceBEq, Bool.or_false, Bool.false_or, Bool.or_self, Bool.or_true, Bool.true_or, List.isEmpty_nil, List.isEmpty_cons, decide_true, decide_false, if_true, if_false, Bool.false_eq_true, Bool.not_true, Bool.not_false, Bool.and_true, Bool.true_and, Bool.and_self, Bool.and_false, Bool.false_and, reduceIte, Nat.zero_add, Nat.reduceAdd, Nat.reduceSub, Nat.reduceLT, Nat.reduceLeDiff, Nat.reduceEqDiff, decide_eq_true_eq, eq_self, Option.some.injEq, reduceCtorEq, Nat.lt_irrefl, h.un, e1, c]
      rw [evSs_cons]; simp -implicitDefEqProofs only [evS, evT, evE, evP, evPs, evV, evA, evAnd, evOr, evI, Pv.a0, Pv.a1, Pv.v0, Pv.v1, opd, slotOf, satOp, Pv.two, Pv.one, ob_s, ob_n, sc_int, sc_bl, sc_str, sc_non, bd_ok, bd_exc, thenE_ok, thenE_exc, thenT_ok, thenT_exc, thenA_ok, thenI_ok, fl_nx, fl_ret, fl_exc, fl_bk, fl_ct, fl_nil, evSs_nil, asBl, asInt, un_non, un_bl, un_int, un_str, un_tup, un_lst, un_obj, un_un, fz, fzs, isSc, isScs, isFz, isFzs, isOwn, isOwns, dNeg, dT, tgA, setAll, okS, res, at2, it_tup, it_lst, chnD, lItems, tmps, cpyLoc, cpyTmp, ixTmp, ioPos, outFl, outsOf, fzs_ints, Pv.sto1, Pv.sto2, ownItems, at2_0, at2_1, at3_0, at3_1, at3_2, at4_0, at4_1, at4_2, at4_3, ix_20, ix_21, ix_40, ix_41, ix_42, ix_43, List.length_map, isFzs, d2_add, d2_sub, d2_lt, d2_le, d2_gt, d2_ge, d2_eq, d2_ne, d2_eqs, d2_eqb, d2_isn_non, d2_isn_int, d2_isn_bl, d2_isn_str, d2_isn_tup, d2_isn_lst, d2_notn_non, d2_notn_int, d2_notn_bl, d2_notn_str, d2_notn_tup, d2_notn_lst, d2_mod, d2_fdiv, Int.reduceToNat, Int.reducePow, Int.reduceEq, Int.reduceLT, Int.reduceLE, Int.reduceNeg, Int.reduceMul, Int.reduceAdd, Int.reduceSub, cst0, cst1, cst2, cst3, cst4, cst5, cst6, cst7, cst8, cst9, cst10, cst11, cst12, ne_eq, not_false_eq_true, not_true_eq_false, dF_gcd, dF_lenL, dF_lenT, dF_int, dF_intb, dF_abs, dF_min, dF_max, dI_ii, dI_ib, dI_is, dI_il, dI_it, dI_bi, dI_bb, dI_bs, dI_bl, dI_bt, dI_si, dI_sb, dI_ss, dI_sl, dI_st, dI_li, dI_lb, dI_ls, dI_ll, dI_lt, dI_ti, dI_tb, dI_ts, dI_tl, dI_tt, dI_ni, dI_nb, dI_ns, dI_nl, dI_nt, Option.map_some, List.length_cons, List.length_nil, List.getElem?_cons_zero, List.getElem?_cons_succ, List.getElem?_nil, List.set_cons_zero, List.set_cons_succ, List.set_nil, List.map_cons, List.map_nil, List.cons_append, List.nil_append, List.append_nil, List.replicate, List.getD_cons_zero, List.getD_cons_succ, List.contains_nil, List.contains_cons, Nat.reduceBEq, Bool.or_false, Bool.false_or, Bool.or_self, Bool.or_true, Bool.true_or, List.isEmpty_nil, List.isEmpty_cons, decide_true, decide_false, if_true, if_false, Bool.false_eq_true, Bool.not_true, Bool.not_false, Bool.and_true, Bool.true_and, Bool.and_self, Bool.and_false, Bool.false_and, reduceIte, Nat.zero_add, Nat.reduceAdd, Nat.reduceSub, Nat.reduceLT, Nat.reduceLeDiff, Nat.reduceEqDiff, decide_eq_true_eq, eq_self, Option.some.injEq, reduceCtorEq, Nat.lt_irrefl, d2_pow pw]
      rw [evSs_cons]; simp -implicitDefEqProofs only [evS, evT, evE, evP, evPs, evV, evA, evAnd, evOr, evI, Pv.a0, Pv.a1, Pv.v0, Pv.v1, opd, slotOf, satOp, Pv.two, Pv.one, ob_s, ob_n, sc_int, sc_bl, sc_str, sc_non, bd_ok, bd_exc, thenE_ok, thenE_exc, thenT_ok, thenT_exc, thenA_ok, thenI_ok, fl_nx, fl_ret, fl_exc, fl_bk, fl_ct, fl_nil, evSs_nil, asBl, asInt, un_non, un_bl, un_int, un_str, un_tup, un_lst, un_obj, un_un, fz, fzs, isSc, isScs, isFz, isFzs, isOwn, isOwns, dNeg, dT, tgA, setAll, okS, res, at2, it_tup, it_lst, chnD, lItems, tmps, cpyLoc, cpyTmp, ixTmp, ioPos, outFl, outsOf, fzs_ints, Pv.sto1, Pv.sto2, ownItems, at2_0, at2_1, at3_0, at3_1, at3_2, at4_0, at4_1, at4_2, at4_3, ix_20, ix_21, ix_40, ix_41, ix_42, ix_43, List.length_map, isFzs, d2_add, d2_sub, d2_lt, d2_le, d2_gt, d2_ge, d2_eq, d2_ne, d2_eqs, d2_eqb, d2_isn_non, d2_isn_int, d2_isn_bl, d2_isn_str, d2_isn_tup, d2_isn_lst, d2_notn_non, d2_notn_int, d2_notn_bl, d2_notn_str, d2_notn_tup, d2_notn_lst, d2_mod, d2_fdiv, Int.reduceToNat, Int.reducePow, Int.reduceEq, Int.reduceLT, Int.reduceLE, Int.reduceNeg, Int.reduceMul, Int.reduceAdd, Int.reduceSub, cst0, cst1, cst2, cst3, cst4, cst5, cst6, cst7, cst8, cst9, cst10, cst11, cst12, ne_eq, not_false_eq_true, not_true_eq_false, dF_gcd, dF_lenL, dF_lenT, dF_int, dF_intb, dF_abs, dF_min, dF_max, dI_ii, dI_ib, dI_is, dI_il, dI_it, dI_bi, dI_bb, dI_bs, dI_bl, dI_bt, dI_si, dI_sb, dI_ss, dI_sl, dI_st, dI_li, dI_lb, dI_ls, dI_ll, dI_lt, dI_ti, dI_tb, dI_ts, dI_tl, dI_tt, dI_ni, dI_nb, dI_ns, dI_nl, dI_nt, Option.map_some, List.length_cons, List.length_nil, List.getElem?_cons_zero, List.getElem?_cons_succ, List.getElem?_nil, List.set_cons_zero, List.set_cons_succ, List.set_nil, List.map_cons, List.map_nil, List.cons_append, List.nil_append, List.append_nil, List.replicate, List.getD_cons_zero, List.getD_cons_succ, List.contains_nil, List.contains_cons, Nat.reduceBEq, Bool.or_false, Bool.false_or, Bool.or_self, Bool.or_true, Bool.true_or, List.isEmpty_nil, List.isEmpty_cons, decide_true, decide_false, if_true, if_false, Bool.false_eq_true, Bool.not_true, Bool.not_false, Bool.and_true, Bool.true_and, Bool.and_self, Bool.and_false, Bool.false_and, reduceIte, Nat.zero_add, Nat.reduceAdd, Nat.reduceSub, Nat.reduceLT, Nat.reduceLeDiff, Nat.reduceEqDiff, decide_eq_true_eq, eq_self, Option.some.injEq, reduceCtorEq, Nat.lt_irrefl, h1.un, e2, ei]
    unfold b_L_index at key
    match j, hj, key with
    | 0, _, key => exact key _ rfl rfl rfl fun i e => by cases e; exact .inl rfl
    | 1, _, key => exact key _ rfl rfl rfl fun i e => by cases e; omega
    | 2, _, key => exact key _ rfl rfl rfl fun i e => by cases e
    | 3, _, key => exact key _ rfl rfl rfl fun i e => by cases e
    | 4, _, key => exact key _ rfl rfl rfl fun i e => by cases e
    | 5, _, key => exact key _ rfl rfl rfl fun i e => by cases e
    | 6, _, key => exact key _ rfl rfl rfl fun i e => by cases e
    | 7, _, key => exact key _ rfl rfl rfl fun i e => by cases e
    | 8, _, key => exact key _ rfl rfl rfl fun i e => by cases e; omega
def b_law : Ss := .cons (.asg (.nm 1) (.call "_law_start" F_L_start (.cons (.var 0) (.nil)))) (.cons (.asg (.nm 2) (.call "_law_index" F_L_index (.cons (.var 1) (.cons (.con (.int 26)) (.nil))))) (.cons (.asg (.nm 3) (.ix (.var 2) (.con (.int 0)))) (.cons (.ite (.ix (.var 2) (.con (.int 1))) (.cons (.asg (.nm 3) (.pk (.op2 .sub (.var 3) (.con (.int 25))))) (.nil)) (.cons (.ite (.call "_law_is_int" F_L_is_int (.cons (.var 3) (.nil))) (.cons (.asg (.nm 3) (.ix (.lst (.cons (.con (.int 2)) (.cons (.pk (.neg (.con (.int 26)))) (.cons (.pk (.op2 .pow (.con (.int 10)) (.con (.int 39)))) (.nil))))) (.call "_law_pull" F_L_pull (.cons (.var 1) (.cons (.con (.int 3)) (.nil)))))) (.nil)) (.nil)) (.nil))) (.cons (.asg (.nm 4) (.op2 .add (.con (.int 1)) (.call "_law_pull" F_L_pull (.cons (.var 1) (.cons (.con (.int 30)) (.nil)))))) (.cons (.ite (.op2 .eq (.call "_law_pull" F_L_pull (.cons (.var 1) (.cons (.con (.int 4)) (.nil)))) (.con (.int 0))) (.cons (.asg (.nm 4) (.op2 .add (.con (.int 1)) (.call "_law_big" F_L_big (.cons (.var 1) (.cons (.pk (.op2 .pow (.con (.int 10)) (.con (.int 39)))) (.nil)))))) (.nil)) (.nil)) (.cons (.asg (.nm 5) (.call "_law_pull" F_L_pull (.cons (.var 1) (.cons (.con (.int 6)) (.nil))))) (.cons (.ite (.pk (.op2 .eq (.var 5) (.con (.int 0)))) (.cons (.asg (.nm 4) (.ix (.lst (.cons (.con (.int 0)) (.cons (.con (.bl true)) (.cons (.pk (.neg (.con (.int 1)))) (.cons (.con (.non)) (.cons (.tup (.cons (.con (.int 1)) (.cons (.con (.int 1)) (.nil)))) (.nil))))))) (.call "_law_pull" F_L_pull (.cons (.var 1) (.cons (.con (.int 5)) (.nil)))))) (.nil)) (.nil)) (.cons (.asg (.nm 6) (.call "_law_index" F_L_index (.cons (.var 1) (.cons (.con (.int 40)) (.nil))))) (.cons (.asg (.nm 7) (.ix (.var 6) (.con (.int 0)))) (.cons (.ite (.land (.cons (.lnot (.ix (.var 6) (.con (.int 1)))) (.cons (.call "_law_is_int" F_L_is_int (.cons (.var 7) (.nil))) (.nil)))) (.cons (.asg (.nm 7) (.ix (.lst (.cons (.pk (.neg (.con (.int 1)))) (.cons (.pk (.op2 .add (.op2 .pow (.con (.int 10)) (.con (.int 40))) (.con (.int 1)))) (.nil)))) (.call "_law_pull" F_L_pull (.cons (.var 1) (.cons (.con (.int 2)) (.nil)))))) (.nil)) (.nil)) (.cons (.asg (.nm 8) (.con (.non))) (.cons (.ite (.lnot (.ix (.var 2) (.con (.int 1)))) (.cons (.asg (.nm 8) (.tup (.cons (.con (.str "refused")) (.cons (.con (.str "root")) (.nil))))) (.nil)) (.cons (.ite (.pk (.op2 .eq (.var 5) (.con (.int 0)))) (.cons (.asg (.nm 8) (.tup (.cons (.con (.str "refused")) (.cons (.con (.str "start")) (.nil))))) (.nil)) (.cons (.ite (.lnot (.ix (.var 6) (.con (.int 1)))) (.cons (.asg (.nm 8) (.tup (.cons (.con (.str "refused")) (.cons (.con (.str "n")) (.nil))))) (.nil)) (.nil)) (.nil))) (.nil))) (.cons (.ite (.pk (.op2 .notn (.var 8) (.con (.non)))) (.cons (.ret (.call "_law_same" (F_L_same 8) (.cons (.call "_law_asked" F_L_asked (.cons (.var 3) (.cons (.var 4) (.cons (.var 7) (.nil))))) (.cons (.var 8) (.nil))))) (.nil)) (.nil)) (.cons (.asg (.nm 9) (.con (.int 1))) (.cons (.asg (.nm 10) (.con (.int 1))) (.cons (.for_ (.nm 11) (.rng1 (.cons (.var 7) (.nil))) (.cons (.asg (.nm 9) (.pk (.op2 .mul (.var 9) (.op2 .add (.op2 .add (.var 4) (.var 11)) (.var 3))))) (.cons (.asg (.nm 10) (.pk (.op2 .mul (.var 10) (.op2 .add (.var 4) (.var 11))))) (.nil)))) (.cons (.ite (.lnot (.call "_law_same" (F_L_same 8) (.cons (.call "_law_asked" F_L_asked (.cons (.var 3) (.cons (.var 4) (.cons (.var 7) (.nil))))) (.cons (.tup (.cons (.con (.str "told")) (.cons (.call "_law_low" F_L_low (.cons (.var 9) (.cons (.var 10) (.nil)))) (.nil)))) (.nil))))) (.cons (.ret (.con (.bl false))) (.nil)) (.nil)) (.cons (.asg (.nm 12) (.call "_law_big" F_L_big (.cons (.var 1) (.cons (.pk (.op2 .pow (.con (.int 10)) (.con (.int 40)))) (.nil))))) (.cons (.asg (.nm 13) (.call "factor" F_factor (.cons (.var 3) (.cons (.var 4) (.cons (.var 12) (.nil)))))) (.cons (.ite (.lnot (.call "_law_is_fraction" F_L_is_fraction (.cons (.var 13) (.nil)))) (.cons (.ret (.con (.bl false))) (.nil)) (.nil)) (.cons (.asg (.nm 14) (.call "_law_low" F_L_low (.cons (.pk (.op2 .add (.op2 .add (.var 4) (.var 12)) (.var 3))) (.cons (.pk (.op2 .add (.var 4) (.var 12))) (.nil))))) (.cons (.ret (.call "_law_same" (F_L_same 8) (.cons (.call "factor" F_factor (.cons (.var 3) (.cons (.var 4) (.cons (.pk (.op2 .add (.var 12) (.con (.int 1)))) (.nil))))) (.cons (.call "_law_times" F_L_times (.cons (.var 13) (.cons (.var 14) (.nil)))) (.nil))))) (.nil)))))))))))))))))))))))
def n_law : Nat := 15
def nthS : Ss → Nat → S
  | .nil, _ => .pass
  | .cons s _, 0 => s
  | .cons _ r, n + 1 => nthS r n
theorem index_call {d : D} {most : Int} {s : Nat} {rs : List D} (h : StOk d) (hm : 0 ≤ most) (hm2 : most ≤ 1000) (e : rs[s]? = some d) : ∃ v b d', StOk d' ∧ IdxP most v b ∧ callD F_L_index [.loc s, .tmp (.int most)] rs = some (.ok (.lst true [v, .bl b]) (rs.set s d')) := by
  obtain ⟨v, b, d', h1, h2, h3⟩ := index_ok h hm hm2
  refine ⟨v, b, d', h1, h2, ?_⟩
  have e' : rs.getD s .un = d := by rw [List.getD_eq_getElem?_getD, e]; rfl
  have hs : s < rs.length := (List.getElem?_eq_some_iff.mp e).1
  by_cases c : (isOwn (.lst true [v, .bl b]) && isOwns [d']) = true
  · simp [F_L_index, callD, ioOf, nodupB, passD, blank, res, e, fz, h3, c, putBack]
  · simp [F_L_index, callD, ioOf, nodupB, passD, blank, res, e, fz, h3, c, putBack, tmps, isFzs, isFz, freezeV]
/-- the root: in its bounds or not -/
def RP (b : Bool) (lo hi : Int) (r : D) : Prop := ask1 r = true ∧ inB r lo hi = b
theorem isInt_loc {d : D} {rs : List D} {s : Nat} (h : rs[s]? = some d) (ha : ask1 d = true) : callD F_L_is_int [.loc s] rs = some (.ok (.bl (isIntD d)) rs) := call_v1 (by
  rw [res_loc h, ask1_fz ha]
  show m_is_int [d] = _
  cases d <;> first | rfl | (simp [ask1, tyName] at ha)) rfl
theorem law3 {sc st : D} {v : D} {b : Bool} (r s g Y n du t bo k f to sp : D) (h : StOk st) (hv : IdxP 26 v b) : ∃ st' X r', StOk st' ∧ RP b (-25) 1 r' ∧ isUn X = false ∧ (∃ w, X = .lst true [w, .bl b]) ∧ (b = true → ∃ i, r' = .int i) ∧
    ob (evS 0 [] (nthS b_law 2) [sc, st, .lst true [v, .bl b], r, s, g, Y, n, du, t, bo, k, f, to, sp]) (fun fl => Fl.bd (some fl) (evS 0 [] (nthS b_law 3))) = some (.nx [sc, st', X, r', s, g, Y, n, du, t, bo, k, f, to, sp]) := by
  obtain ⟨hu, ha, ht, hf⟩ := hv
  have ix0 := fun y : D => ixLoc_at (s := 2) (k := 0) (rs := [sc, st, .lst true [v, .bl b], y, s, g, Y, n, du, t, bo, k, f, to, sp]) (d := .lst true [v, .bl b]) (c := v) rfl rfl rfl
  have zz : fz (fz v) = fz v := fz_fz v
  have uz : isUn (fz v) = false := ask1_un ha
  have ix1 : ∀ st y : D, ixLoc 2 (.int 1) [sc, st, .lst true [fz v, .bl b], y, s, g, Y, n, du, t, bo, k, f, to, sp] = some (.ok (.bl b) [sc, st, .lst true [fz v, .bl b], y, s, g, Y, n, du, t, bo, k, f, to, sp]) := fun st y => by
    have e := ixLoc_at (s := 2) (k := 1) (rs := [sc, st, .lst true [fz v, .bl b], y, s, g, Y, n, du, t, bo, k, f, to, sp]) (d := .lst true [fz v, .bl b]) (c := .bl b) rfl rfl rfl
    exact e
  have sa : setAt (.lst true [v, .bl b]) [v, .bl b] 0 (fz v) = .lst true [fz v, .bl b] := rfl
  cases b with
  | true =>
    obtain ⟨i, rfl, h0, h1⟩ := ht rfl
    simp only [fz] at ix0 sa ix1
    refine ⟨st, .lst true [.int i, .bl true], .int (i - 25), h, ⟨rfl, ?_⟩, rfl, ⟨_, rfl⟩, fun _ => ⟨_, rfl⟩, ?_⟩
    · simp only [inB, Bool.and_eq_true, decide_eq_true_eq]; omega
    · unfold nthS b_law
      dsimp only
      simp -implicitDefEqProofs only [evS, evT, evE, evP, evPs, evV, evA, evAnd, evOr, evI, Pv.a0, Pv.a1, Pv.v0, Pv.v1, opd, slotOf, satOp, Pv.two, Pv.one, ob_s, ob_n, sc_int, sc_bl, sc_str, sc_non, bd_ok, bd_exc, thenE_ok, thenE_exc, thenT_ok, thenT_exc, thenA_ok, thenI_ok, fl_nx, fl_ret, fl_exc, fl_bk, fl_ct, fl_nil, evSs_nil, asBl, asInt, un_non, un_bl, un_int, un_str, un_tup, un_lst, un_obj, un_un, fz, fzs, isSc, isScs, isFz, isFzs, isOwn, isOwns, dNeg, dT, tgA, setAll, okS, res, at2, it_tup, it_lst, chnD, lItems, tmps, cpyLoc, cpyTmp, ixTmp, ioPos, outFl, outsOf, fzs_ints, Pv.sto1, Pv.sto2, ownItems, at2_0, at2_1, at3_0, at3_1, at3_2, at4_0, at4_1, at4_2, at4_3, ix_20, ix_21, ix_40, ix_41, ix_42, ix_43, List.length_map, isFzs, d2_add, d2_sub, d2_lt, d2_le, d2_gt, d2_ge, d2_eq, d2_ne, d2_eqs, d2_eqb, d2_isn_non, d2_isn_int, d2_isn_bl, d2_isn_str, d2_isn_tup, d2_isn_lst, d2_notn_non, d2_notn_int, d2_notn_bl, d2_notn_str, d2_notn_tup, d2_notn_lst, d2_mod, d2_fdiv, Int.reduceToNat, Int.reducePow, Int.reduceEq, Int.reduceLT, Int.reduceLE, Int.reduceNeg, Int.reduceMul, Int.reduceAdd, Int.reduceSub, cst0, cst1, cst2, cst3, cst4, cst5, cst6, cst7, cst8, cst9, cst10, cst11, cst12, ne_eq, not_false_eq_true, not_true_eq_false, dF_gcd, dF_lenL, dF_lenT, dF_int, dF_intb, dF_abs, dF_min, dF_max, dI_ii, dI_ib, dI_is, dI_il, dI_it, dI_bi, dI_bb, dI_bs, dI_bl, dI_bt, dI_si, dI_sb, dI_ss, dI_sl, dI_st, dI_li, dI_lb, dI_ls, dI_ll, dI_lt, dI_ti, dI_tb, dI_ts, dI_tl, dI_tt, dI_ni, dI_nb, dI_ns, dI_nl, dI_nt, Option.map_some, List.length_cons, List.length_nil, List.getElem?_cons_zero, List.getElem?_cons_succ, List.getElem?_nil, List.set_cons_zero, List.set_cons_succ, List.set_nil, List.map_cons, List.map_nil, List.cons_append, List.nil_append, List.append_nil, List.replicate, List.getD_cons_zero, List.getD_cons_succ, List.contains_nil, List.contains_cons, Nat.reduceBEq, Bool.or_false, Bool.false_or, Bool.or_self, Bool.or_true, Bool.true_or, List.isEmpty_nil, List.isEmpty_cons, decide_true, decide_false, if_true, if_false, Bool.false_eq_true, Bool.not_true, Bool.not_false, Bool.and_true, Bool.true_and, Bool.and_self, Bool.and_false, Bool.false_and, reduceIte, Nat.zero_add, Nat.reduceAdd, Nat.reduceSub, Nat.reduceLT, Nat.reduceLeDiff, Nat.reduceEqDiff, decide_eq_true_eq, eq_self, Option.some.injEq, reduceCtorEq, Nat.lt_irrefl, evSs_cons, ix0, sa, ix1, nthS]
  | false =>
    have e1 : ∀ X, callD F_L_is_int [.loc 3] [sc, st, X, fz v, s, g, Y, n, du, t, bo, k, f, to, sp] = some (.ok (.bl (isIntD (fz v))) [sc, st, X, fz v, s, g, Y, n, du, t, bo, k, f, to, sp]) := fun X => isInt_loc rfl ha
    by_cases c : isIntD (fz v) = true
    · obtain ⟨q, st1, h1, q0, q1, e2⟩ := call_pull (rs := [sc, st, .lst true [fz v, .bl false], fz v, s, g, Y, n, du, t, bo, k, f, to, sp]) (s := 1) h (show (0 : Int) < 3 by decide) rfl
      have pw : powOk 10 39 = true := by decide
      obtain ⟨j, rfl⟩ : ∃ j : Nat, q = (j : Int) := ⟨q.toNat, by omega⟩
      have key : ∃ w : Int, L2.atI [D.int 2, D.int (-26), D.int 1000000000000000000000000000000000000000] (j : Int) = some (D.int w) ∧ inB (.int w) (-25) 1 = false := by
        match j, (show j < 3 by omega) with
        | 0, _ => exact ⟨_, rfl, by decide⟩
        | 1, _ => exact ⟨_, rfl, by decide⟩
        | 2, _ => exact ⟨_, rfl, by decide⟩
      obtain ⟨w, ew, iw⟩ := key
      refine ⟨st1, .lst true [fz v, .bl false], .int w, h1, ⟨rfl, iw⟩, rfl, ⟨_, rfl⟩, fun z => (by cases z), ?_⟩
      unfold nthS b_law
      dsimp only
      simp -implicitDefEqProofs only [evS, evT, evE, evP, evPs, evV, evA, evAnd, evOr, evI, Pv.a0, Pv.a1, Pv.v0, Pv.v1, opd, slotOf, satOp, Pv.two, Pv.one, ob_s, ob_n, sc_int, sc_bl, sc_str, sc_non, bd_ok, bd_exc, thenE_ok, thenE_exc, thenT_ok, thenT_exc, thenA_ok, thenI_ok, fl_nx, fl_ret, fl_exc, fl_bk, fl_ct, fl_nil, evSs_nil, asBl, asInt, un_non, un_bl, un_int, un_str, un_tup, un_lst, un_obj, un_un, fz, fzs, isSc, isScs, isFz, isFzs, isOwn, isOwns, dNeg, dT, tgA, setAll, okS, res, at2, it_tup, it_lst, chnD, lItems, tmps, cpyLoc, cpyTmp, ixTmp, ioPos, outFl, outsOf, fzs_ints, Pv.sto1, Pv.sto2, ownItems, at2_0, at2_1, at3_0, at3_1, at3_2, at4_0, at4_1, at4_2, at4_3, ix_20, ix_21, ix_40, ix_41, ix_42, ix_43, List.length_map, isFzs, d2_add, d2_sub, d2_lt, d2_le, d2_gt, d2_ge, d2_eq, d2_ne, d2_eqs, d2_eqb, d2_isn_non, d2_isn_int, d2_isn_bl, d2_isn_str, d2_isn_tup, d2_isn_lst, d2_notn_non, d2_notn_int, d2_notn_bl, d2_notn_str, d2_notn_tup, d2_notn_lst, d2_mod, d2_fdiv, Int.reduceToNat, Int.reducePow, Int.reduceEq, Int.reduceLT, Int.reduceLE, Int.reduceNeg, Int.reduceMul, Int.reduceAdd, Int.reduceSub, cst0, cst1, cst2, cst3, cst4, cst5, cst6, cst7, cst8, cst9, cst10, cst11, cst12, ne_eq, not_false_eq_true, not_true_eq_false, dF_gcd, dF_lenL, dF_lenT, dF_int, dF_intb, dF_abs, dF_min, dF_max, dI_ii, dI_ib, dI_is, dI_il, dI_it, dI_bi, dI_bb, dI_bs, dI_bl, dI_bt, dI_si, dI_sb, dI_ss, dI_sl, dI_st, dI_li, dI_lb, dI_ls, dI_ll, dI_lt, dI_ti, dI_tb, dI_ts, dI_tl, dI_tt, dI_ni, dI_nb, dI_ns, dI_nl, dI_nt, Option.map_some, List.length_cons, List.length_nil, List.getElem?_cons_zero, List.getElem?_cons_succ, List.getElem?_nil, List.set_cons_zero, List.set_cons_succ, List.set_nil, List.map_cons, List.map_nil, List.cons_append, List.nil_append, List.append_nil, List.replicate, List.getD_cons_zero, List.getD_cons_succ, List.contains_nil, List.contains_cons, Nat.reduceBEq, Bool.or_false, Bool.false_or, Bool.or_self, Bool.or_true, Bool.true_or, List.isEmpty_nil, List.isEmpty_cons, decide_true, decide_false, if_true, if_false, Bool.false_eq_true, Bool.not_true, Bool.not_false, Bool.and_true, Bool.true_and, Bool.and_self, Bool.and_false, Bool.false_and, reduceIte, Nat.zero_add, Nat.reduceAdd, Nat.reduceSub, Nat.reduceLT, Nat.reduceLeDiff, Nat.reduceEqDiff, decide_eq_true_eq, eq_self, Option.some.injEq, reduceCtorEq, Nat.lt_irrefl, evSs_cons, ix0, sa, ix1, nthS, uz, zz, e1, c, d2_pow pw, h.un, e2, ew]
    · have c : isIntD (fz v) = false := by simpa using c
      refine ⟨st, .lst true [fz v, .bl false], fz v, h, ⟨ha, ?_⟩, rfl, ⟨_, rfl⟩, fun z => (by cases z), ?_⟩
      · cases v <;> first | rfl | (simp [isIntD, fz] at c)
      unfold nthS b_law
      dsimp only
      simp -implicitDefEqProofs only [evS, evT, evE, evP, evPs, evV, evA, evAnd, evOr, evI, Pv.a0, Pv.a1, Pv.v0, Pv.v1, opd, slotOf, satOp, Pv.two, Pv.one, ob_s, ob_n, sc_int, sc_bl, sc_str, sc_non, bd_ok, bd_exc, thenE_ok, thenE_exc, thenT_ok, thenT_exc, thenA_ok, thenI_ok, fl_nx, fl_ret, fl_exc, fl_bk, fl_ct, fl_nil, evSs_nil, asBl, asInt, un_non, un_bl, un_int, un_str, un_tup, un_lst, un_obj, un_un, fz, fzs, isSc, isScs, isFz, isFzs, isOwn, isOwns, dNeg, dT, tgA, setAll, okS, res, at2, it_tup, it_lst, chnD, lItems, tmps, cpyLoc, cpyTmp, ixTmp, ioPos, outFl, outsOf, fzs_ints, Pv.sto1, Pv.sto2, ownItems, at2_0, at2_1, at3_0, at3_1, at3_2, at4_0, at4_1, at4_2, at4_3, ix_20, ix_21, ix_40, ix_41, ix_42, ix_43, List.length_map, isFzs, d2_add, d2_sub, d2_lt, d2_le, d2_gt, d2_ge, d2_eq, d2_ne, d2_eqs, d2_eqb, d2_isn_non, d2_isn_int, d2_isn_bl, d2_isn_str, d2_isn_tup, d2_isn_lst, d2_notn_non, d2_notn_int, d2_notn_bl, d2_notn_str, d2_notn_tup, d2_notn_lst, d2_mod, d2_fdiv, Int.reduceToNat, Int.reducePow, Int.reduceEq, Int.reduceLT, Int.reduceLE, Int.reduceNeg, Int.reduceMul, Int.reduceAdd, Int.reduceSub, cst0, cst1, cst2, cst3, cst4, cst5, cst6, cst7, cst8, cst9, cst10, cst11, cst12, ne_eq, not_false_eq_true, not_true_eq_false, dF_gcd, dF_lenL, dF_lenT, dF_int, dF_intb, dF_abs, dF_min, dF_max, dI_ii, dI_ib, dI_is, dI_il, dI_it, dI_bi, dI_bb, dI_bs, dI_bl, dI_bt, dI_si, dI_sb, dI_ss, dI_sl, dI_st, dI_li, dI_lb, dI_ls, dI_ll, dI_lt, dI_ti, dI_tb, dI_ts, dI_tl, dI_tt, dI_ni, dI_nb, dI_ns, dI_nl, dI_nt, Option.map_some, List.length_cons, List.length_nil, List.getElem?_cons_zero, List.getElem?_cons_succ, List.getElem?_nil, List.set_cons_zero, List.set_cons_succ, List.set_nil, List.map_cons, List.map_nil, List.cons_append, List.nil_append, List.append_nil, List.replicate, List.getD_cons_zero, List.getD_cons_succ, List.contains_nil, List.contains_cons, Nat.reduceBEq, Bool.or_false, Bool.false_or, Bool.or_self, Bool.or_true, Bool.true_or, List.isEmpty_nil, List.isEmpty_cons, decide_true, decide_false, if_true, if_false, Bool.false_eq_true, Bool.not_true, Bool.not_false, Bool.and_true, Bool.true_and, Bool.and_self, Bool.and_false, Bool.false_and, reduceIte, Nat.zero_add, Nat.reduceAdd, Nat.reduceSub, Nat.reduceLT, Nat.reduceLeDiff, Nat.reduceEqDiff, decide_eq_true_eq, eq_self, Option.some.injEq, reduceCtorEq, Nat.lt_irrefl, evSs_cons, ix0, sa, ix1, nthS, uz, zz, e1, c]
theorem law5 {sc st : D} (X r s g Y n du t bo k f to sp : D) (h : StOk st) : ∃ st' S, StOk st' ∧ 1 ≤ S ∧ S.natAbs < 2 ^ 133 ∧
    ob (evS 0 [] (nthS b_law 4) [sc, st, X, r, s, g, Y, n, du, t, bo, k, f, to, sp]) (fun fl => Fl.bd (some fl) (evS 0 [] (nthS b_law 5))) = some (.nx [sc, st', X, r, .int S, g, Y, n, du, t, bo, k, f, to, sp]) := by
  obtain ⟨q, st1, h1, q0, q1, e1⟩ := call_pull (rs := [sc, st, X, r, s, g, Y, n, du, t, bo, k, f, to, sp]) (s := 1) h (show (0 : Int) < 30 by decide) rfl
  obtain ⟨p, st2, h2, p0, p1, e2⟩ := call_pull (rs := [sc, st1, X, r, .int (1 + q), g, Y, n, du, t, bo, k, f, to, sp]) (s := 1) h1 (show (0 : Int) < 4 by decide) rfl
  have pw : powOk 10 39 = true := by decide
  by_cases c : p = 0
  · obtain ⟨w, st3, h3, w0, w1, e3⟩ := call_big (rs := [sc, st2, X, r, .int (1 + q), g, Y, n, du, t, bo, k, f, to, sp]) (s := 1) (many := 1000000000000000000000000000000000000000) h2 (by decide) rfl
    refine ⟨st3, 1 + w, h3, by omega, by omega, ?_⟩
    unfold nthS b_law
    dsimp only
    simp -implicitDefEqProofs only [evS, evT, evE, evP, evPs, evV, evA, evAnd, evOr, evI, Pv.a0, Pv.a1, Pv.v0, Pv.v1, opd, slotOf, satOp, Pv.two, Pv.one, ob_s, ob_n, sc_int, sc_bl, sc_str, sc_non, bd_ok, bd_exc, thenE_ok, thenE_exc, thenT_ok, thenT_exc, thenA_ok, thenI_ok, fl_nx, fl_ret, fl_exc, fl_bk, fl_ct, fl_nil, evSs_nil, asBl, asInt, un_non, un_bl, un_int, un_str, un_tup, un_lst, un_obj, un_un, fz, fzs, isSc, isScs, isFz, isFzs, isOwn, isOwns, dNeg, dT, tgA, setAll, okS, res, at2, it_tup, it_lst, chnD, lItems, tmps, cpyLoc, cpyTmp, ixTmp, ioPos, outFl, outsOf, fzs_ints, Pv.sto1, Pv.sto2, ownItems, at2_0, at2_1, at3_0, at3_1, at3_2, at4_0, at4_1, at4_2, at4_3, ix_20, ix_21, ix_40, ix_41, ix_42, ix_43, List.length_map, isFzs, d2_add, d2_sub, d2_lt, d2_le, d2_gt, d2_ge, d2_eq, d2_ne, d2_eqs, d2_eqb, d2_isn_non, d2_isn_int, d2_isn_bl, d2_isn_str, d2_isn_tup, d2_isn_lst, d2_notn_non, d2_notn_int, d2_notn_bl, d2_notn_str, d2_notn_tup, d2_notn_lst, d2_mod, d2_fdiv, Int.reduceToNat, Int.reducePow, Int.reduceEq, Int.reduceLT, Int.reduceLE, Int.reduceNeg, Int.reduceMul, Int.reduceAdd, Int.reduceSub, cst0, cst1, cst2, cst3, cst4, cst5, cst6, cst7, cst8, cst9, cst10, cst11, cst12, ne_eq, not_false_eq_true, not_true_eq_false, dF_gcd, dF_lenL, dF_lenT, dF_int, dF_intb, dF_abs, dF_min, dF_max, dI_ii, dI_ib, dI_is, dI_il, dI_it, dI_bi, dI_bb, dI_bs, dI_bl, dI_bt, dI_si, dI_sb, dI_ss, dI_sl, dI_st, dI_li, dI_lb, dI_ls, dI_ll, dI_lt, dI_ti, dI_tb, dI_ts, dI_tl, dI_tt, dI_ni, dI_nb, dI_ns, dI_nl, dI_nt, Option.map_some, List.length_cons, List.length_nil, List.getElem?_cons_zero, List.getElem?_cons_succ, List.getElem?_nil, List.set_cons_zero, List.set_cons_succ, List.set_nil, List.map_cons, List.map_nil, List.cons_append, List.nil_append, List.append_nil, List.replicate, List.getD_cons_zero, List.getD_cons_succ, List.contains_nil, List.contains_cons, Nat.reduceBEq, Bool.or_false, Bool.false_or, Bool.or_self, Bool.or_true, Bool.true_or, List.isEmpty_nil, List.isEmpty_cons, decide_true, decide_false, if_true, if_false, Bool.false_eq_true, Bool.not_true, Bool.not_false, Bool.and_true, Bool.true_and, Bool.and_self, Bool.and_false, Bool.false_and, reduceIte, Nat.zero_add, Nat.reduceAdd, Nat.reduceSub, Nat.reduceLT, Nat.reduceLeDiff, Nat.reduceEqDiff, decide_eq_true_eq, eq_self, Option.some.injEq, reduceCtorEq, Nat.lt_irrefl, evSs_cons, nthS, h.un, e1, h1.un, e2, c, h2.un, d2_pow pw, e3]
  · refine ⟨st2, 1 + q, h2, by omega, by omega, ?_⟩
    unfold nthS b_law
    dsimp only
    simp -implicitDefEqProofs only [evS, evT, evE, evP, evPs, evV, evA, evAnd, evOr, evI, Pv.a0, Pv.a1, Pv.v0, Pv.v1, opd, slotOf, satOp, Pv.two, Pv.one, ob_s, ob_n, sc_int, sc_bl, sc_str, sc_non, bd_ok, bd_exc, thenE_ok, thenE_exc, thenT_ok, thenT_exc, thenA_ok, thenI_ok, fl_nx, fl_ret, fl_exc, fl_bk, fl_ct, fl_nil, evSs_nil, asBl, asInt, un_non, un_bl, un_int, un_str, un_tup, un_lst, un_obj, un_un, fz, fzs, isSc, isScs, isFz, isFzs, isOwn, isOwns, dNeg, dT, tgA, setAll, okS, res, at2, it_tup, it_lst, chnD, lItems, tmps, cpyLoc, cpyTmp, ixTmp, ioPos, outFl, outsOf, fzs_ints, Pv.sto1, Pv.sto2, ownItems, at2_0, at2_1, at3_0, at3_1, at3_2, at4_0, at4_1, at4_2, at4_3, ix_20, ix_21, ix_40, ix_41, ix_42, ix_43, List.length_map, isFzs, d2_add, d2_sub, d2_lt, d2_le, d2_gt, d2_ge, d2_eq, d2_ne, d2_eqs, d2_eqb, d2_isn_non, d2_isn_int, d2_isn_bl, d2_isn_str, d2_isn_tup, d2_isn_lst, d2_notn_non, d2_notn_int, d2_notn_bl, d2_notn_str, d2_notn_tup, d2_notn_lst, d2_mod, d2_fdiv, Int.reduceToNat, Int.reducePow, Int.reduceEq, Int.reduceLT, Int.reduceLE, Int.reduceNeg, Int.reduceMul, Int.reduceAdd, Int.reduceSub, cst0, cst1, cst2, cst3, cst4, cst5, cst6, cst7, cst8, cst9, cst10, cst11, cst12, ne_eq, not_false_eq_true, not_true_eq_false, dF_gcd, dF_lenL, dF_lenT, dF_int, dF_intb, dF_abs, dF_min, dF_max, dI_ii, dI_ib, dI_is, dI_il, dI_it, dI_bi, dI_bb, dI_bs, dI_bl, dI_bt, dI_si, dI_sb, dI_ss, dI_sl, dI_st, dI_li, dI_lb, dI_ls, dI_ll, dI_lt, dI_ti, dI_tb, dI_ts, dI_tl, dI_tt, dI_ni, dI_nb, dI_ns, dI_nl, dI_nt, Option.map_some, List.length_cons, List.length_nil, List.getElem?_cons_zero, List.getElem?_cons_succ, List.getElem?_nil, List.set_cons_zero, List.set_cons_succ, List.set_nil, List.map_cons, List.map_nil, List.cons_append, List.nil_append, List.append_nil, List.replicate, List.getD_cons_zero, List.getD_cons_succ, List.contains_nil, List.contains_cons, Nat.reduceBEq, Bool.or_false, Bool.false_or, Bool.or_self, Bool.or_true, Bool.true_or, List.isEmpty_nil, List.isEmpty_cons, decide_true, decide_false, if_true, if_false, Bool.false_eq_true, Bool.not_true, Bool.not_false, Bool.and_true, Bool.true_and, Bool.and_self, Bool.and_false, Bool.false_and, reduceIte, Nat.zero_add, Nat.reduceAdd, Nat.reduceSub, Nat.reduceLT, Nat.reduceLeDiff, Nat.reduceEqDiff, decide_eq_true_eq, eq_self, Option.some.injEq, reduceCtorEq, Nat.lt_irrefl, evSs_cons, nthS, h.un, e1, h1.un, e2, c]
/-- the start -/
def StaP (G : Bool) (s : D) : Prop := ask1 s = true ∧ isPos s = G ∧ ∀ i, s = .int i → i.natAbs < 2 ^ 134
theorem law7 {sc st : D} (X r g Y n du t bo k f to sp : D) {S : Int} (h : StOk st) (hS : 1 ≤ S) (hS2 : S.natAbs < 2 ^ 133) : ∃ st' s' g' , StOk st' ∧ StaP (!decide (g' = 0)) s' ∧ (g' ≠ 0 → s' = .int S) ∧
    ob (evS 0 [] (nthS b_law 6) [sc, st, X, r, .int S, g, Y, n, du, t, bo, k, f, to, sp]) (fun fl => Fl.bd (some fl) (evS 0 [] (nthS b_law 7))) = some (.nx [sc, st', X, r, s', (.int g'), Y, n, du, t, bo, k, f, to, sp]) := by
  obtain ⟨q, st1, h1, q0, q1, e1⟩ := call_pull (rs := [sc, st, X, r, .int S, g, Y, n, du, t, bo, k, f, to, sp]) (s := 1) h (show (0 : Int) < 6 by decide) rfl
  by_cases c : q = 0
  · subst c
    obtain ⟨p, st2, h2, p0, p1, e2⟩ := call_pull (rs := [sc, st1, X, r, .int S, .int 0, Y, n, du, t, bo, k, f, to, sp]) (s := 1) h1 (show (0 : Int) < 5 by decide) rfl
    obtain ⟨j, rfl⟩ : ∃ j : Nat, p = (j : Int) := ⟨p.toNat, by omega⟩
    have key : ∃ w : D, L2.atI [D.int 0, D.bl true, D.int (-1), D.non, D.tup [D.int 1, D.int 1]] (j : Int) = some w ∧ StaP false w := by
      match j, (show j < 5 by omega) with
      | 0, _ => exact ⟨_, rfl, rfl, by decide, fun i e => by cases e; decide⟩
      | 1, _ => exact ⟨_, rfl, rfl, by decide, fun i e => by cases e⟩
      | 2, _ => exact ⟨_, rfl, rfl, by decide, fun i e => by cases e; decide⟩
      | 3, _ => exact ⟨_, rfl, rfl, by decide, fun i e => by cases e⟩
      | 4, _ => exact ⟨_, rfl, rfl, by decide, fun i e => by cases e⟩
    obtain ⟨w, ew, hw⟩ := key
    refine ⟨st2, w, 0, h2, hw, fun z => (z rfl).elim, ?_⟩
    unfold nthS b_law
    dsimp only
    simp -implicitDefEqProofs only [evS, evT, evE, evP, evPs, evV, evA, evAnd, evOr, evI, Pv.a0, Pv.a1, Pv.v0, Pv.v1, opd, slotOf, satOp, Pv.two, Pv.one, ob_s, ob_n, sc_int, sc_bl, sc_str, sc_non, bd_ok, bd_exc, thenE_ok, thenE_exc, thenT_ok, thenT_exc, thenA_ok, thenI_ok, fl_nx, fl_ret, fl_exc, fl_bk, fl_ct, fl_nil, evSs_nil, asBl, asInt, un_non, un_bl, un_int, un_str, un_tup, un_lst, un_obj, un_un, fz, fzs, isSc, isScs, isFz, isFzs, isOwn, isOwns, dNeg, dT, tgA, setAll, okS, res, at2, it_tup, it_lst, chnD, lItems, tmps, cpyLoc, cpyTmp, ixTmp, ioPos, outFl, outsOf, fzs_ints, Pv.sto1, Pv.sto2, ownItems, at2_0, at2_1, at3_0, at3_1, at3_2, at4_0, at4_1, at4_2, at4_3, ix_20, ix_21, ix_40, ix_41, ix_42, ix_43, List.length_map, isFzs, d2_add, d2_sub, d2_lt, d2_le, d2_gt, d2_ge, d2_eq, d2_ne, d2_eqs, d2_eqb, d2_isn_non, d2_isn_int, d2_isn_bl, d2_isn_str, d2_isn_tup, d2_isn_lst, d2_notn_non, d2_notn_int, d2_notn_bl, d2_notn_str, d2_notn_tup, d2_notn_lst, d2_mod, d2_fdiv, Int.reduceToNat, Int.reducePow, Int.reduceEq, Int.reduceLT, Int.reduceLE, Int.reduceNeg, Int.reduceMul, Int.reduceAdd, Int.reduceSub, cst0, cst1, cst2, cst3, cst4, cst5, cst6, cst7, cst8, cst9, cst10, cst11, cst12, ne_eq, not_false_eq_true, not_true_eq_false, dF_gcd, dF_lenL, dF_lenT, dF_int, dF_intb, dF_abs, dF_min, dF_max, dI_ii, dI_ib, dI_is, dI_il, dI_it, dI_bi, dI_bb, dI_bs, dI_bl, dI_bt, dI_si, dI_sb, dI_ss, dI_sl, dI_st, dI_li, dI_lb, dI_ls, dI_ll, dI_lt, dI_ti, dI_tb, dI_ts, dI_tl, dI_tt, dI_ni, dI_nb, dI_ns, dI_nl, dI_nt, Option.map_some, List.length_cons, List.length_nil, List.getElem?_cons_zero, List.getElem?_cons_succ, List.getElem?_nil, List.set_cons_zero, List.set_cons_succ, List.set_nil, List.map_cons, List.map_nil, List.cons_append, List.nil_append, List.append_nil, List.replicate, List.getD_cons_zero, List.getD_cons_succ, List.contains_nil, List.contains_cons, Nat.reduceBEq, Bool.or_false, Bool.false_or, Bool.or_self, Bool.or_true, Bool.true_or, List.isEmpty_nil, List.isEmpty_cons, decide_true, decide_false, if_true, if_false, Bool.false_eq_true, Bool.not_true, Bool.not_false, Bool.and_true, Bool.true_and, Bool.and_self, Bool.and_false, Bool.false_and, reduceIte, Nat.zero_add, Nat.reduceAdd, Nat.reduceSub, Nat.reduceLT, Nat.reduceLeDiff, Nat.reduceEqDiff, decide_eq_true_eq, eq_self, Option.some.injEq, reduceCtorEq, Nat.lt_irrefl, evSs_cons, nthS, h.un, e1, h1.un, e2, ew]
  · refine ⟨st1, .int S, q, h1, ⟨rfl, ?_, fun i e => by cases e; omega⟩, fun _ => rfl, ?_⟩
    · simp [isPos, hS, c]
    unfold nthS b_law
    dsimp only
    simp -implicitDefEqProofs only [evS, evT, evE, evP, evPs, evV, evA, evAnd, evOr, evI, Pv.a0, Pv.a1, Pv.v0, Pv.v1, opd, slotOf, satOp, Pv.two, Pv.one, ob_s, ob_n, sc_int, sc_bl, sc_str, sc_non, bd_ok, bd_exc, thenE_ok, thenE_exc, thenT_ok, thenT_exc, thenA_ok, thenI_ok, fl_nx, fl_ret, fl_exc, fl_bk, fl_ct, fl_nil, evSs_nil, asBl, asInt, un_non, un_bl, un_int, un_str, un_tup, un_lst, un_obj, un_un, fz, fzs, isSc, isScs, isFz, isFzs, isOwn, isOwns, dNeg, dT, tgA, setAll, okS, res, at2, it_tup, it_lst, chnD, lItems, tmps, cpyLoc, cpyTmp, ixTmp, ioPos, outFl, outsOf, fzs_ints, Pv.sto1, Pv.sto2, ownItems, at2_0, at2_1, at3_0, at3_1, at3_2, at4_0, at4_1, at4_2, at4_3, ix_20, ix_21, ix_40, ix_41, ix_42, ix_43, List.length_map, isFzs, d2_add, d2_sub, d2_lt, d2_le, d2_gt, d2_ge, d2_eq, d2_ne, d2_eqs, d2_eqb, d2_isn_non, d2_isn_int, d2_isn_bl, d2_isn_str, d2_isn_tup, d2_isn_lst, d2_notn_non, d2_notn_int, d2_notn_bl, d2_notn_str, d2_notn_tup, d2_notn_lst, d2_mod, d2_fdiv, Int.reduceToNat, Int.reducePow, Int.reduceEq, Int.reduceLT, Int.reduceLE, Int.reduceNeg, Int.reduceMul, Int.reduceAdd, Int.reduceSub, cst0, cst1, cst2, cst3, cst4, cst5, cst6, cst7, cst8, cst9, cst10, cst11, cst12, ne_eq, not_false_eq_true, not_true_eq_false, dF_gcd, dF_lenL, dF_lenT, dF_int, dF_intb, dF_abs, dF_min, dF_max, dI_ii, dI_ib, dI_is, dI_il, dI_it, dI_bi, dI_bb, dI_bs, dI_bl, dI_bt, dI_si, dI_sb, dI_ss, dI_sl, dI_st, dI_li, dI_lb, dI_ls, dI_ll, dI_lt, dI_ti, dI_tb, dI_ts, dI_tl, dI_tt, dI_ni, dI_nb, dI_ns, dI_nl, dI_nt, Option.map_some, List.length_cons, List.length_nil, List.getElem?_cons_zero, List.getElem?_cons_succ, List.getElem?_nil, List.set_cons_zero, List.set_cons_succ, List.set_nil, List.map_cons, List.map_nil, List.cons_append, List.nil_append, List.append_nil, List.replicate, List.getD_cons_zero, List.getD_cons_succ, List.contains_nil, List.contains_cons, Nat.reduceBEq, Bool.or_false, Bool.false_or, Bool.or_self, Bool.or_true, Bool.true_or, List.isEmpty_nil, List.isEmpty_cons, decide_true, decide_false, if_true, if_false, Bool.false_eq_true, Bool.not_true, Bool.not_false, Bool.and_true, Bool.true_and, Bool.and_self, Bool.and_false, Bool.false_and, reduceIte, Nat.zero_add, Nat.reduceAdd, Nat.reduceSub, Nat.reduceLT, Nat.reduceLeDiff, Nat.reduceEqDiff, decide_eq_true_eq, eq_self, Option.some.injEq, reduceCtorEq, Nat.lt_irrefl, evSs_cons, nthS, h.un, e1, c]
theorem law10 {sc st : D} (X r s g n du t bo k f to sp : D) {v : D} {b : Bool} (h : StOk st) (hv : IdxP 40 v b) : ∃ st' Y n', StOk st' ∧ RP b 0 cFar n' ∧ (∃ w, Y = .lst true [w, .bl b]) ∧ (b = true → ∃ i, n' = .int i ∧ 0 ≤ i ∧ i ≤ 40) ∧
    ob (evS 0 [] (nthS b_law 9) [sc, st, X, r, s, g, .lst true [v, .bl b], n, du, t, bo, k, f, to, sp]) (fun fl => Fl.bd (some fl) (evS 0 [] (nthS b_law 10))) = some (.nx [sc, st', X, r, s, g, Y, n', du, t, bo, k, f, to, sp]) := by
  obtain ⟨hu, ha, ht, hf⟩ := hv
  have ix0 := fun y : D => ixLoc_at (s := 6) (k := 0) (rs := [sc, st, X, r, s, g, .lst true [v, .bl b], y, du, t, bo, k, f, to, sp]) (d := .lst true [v, .bl b]) (c := v) rfl rfl rfl
  have zz : fz (fz v) = fz v := fz_fz v
  have uz : isUn (fz v) = false := ask1_un ha
  have ix1 : ∀ st y : D, ixLoc 6 (.int 1) [sc, st, X, r, s, g, .lst true [fz v, .bl b], y, du, t, bo, k, f, to, sp] = some (.ok (.bl b) [sc, st, X, r, s, g, .lst true [fz v, .bl b], y, du, t, bo, k, f, to, sp]) := fun st y => by
    have e := ixLoc_at (s := 6) (k := 1) (rs := [sc, st, X, r, s, g, .lst true [fz v, .bl b], y, du, t, bo, k, f, to, sp]) (d := .lst true [fz v, .bl b]) (c := .bl b) rfl rfl rfl
    exact e
  have sa : setAt (.lst true [v, .bl b]) [v, .bl b] 0 (fz v) = .lst true [fz v, .bl b] := rfl
  cases b with
  | true =>
    obtain ⟨i, rfl, h0, h1⟩ := ht rfl
    simp only [fz] at ix0 sa ix1
    refine ⟨st, .lst true [.int i, .bl true], .int i, h, ⟨rfl, ?_⟩, ⟨_, rfl⟩, fun _ => ⟨_, rfl, h0, h1⟩, ?_⟩
    · simp only [inB, Bool.and_eq_true, decide_eq_true_eq]
      refine ⟨h0, ?_⟩
      have : (40 : Int) ≤ cFar := by decide
      exact Int.le_trans h1 this
    · unfold nthS b_law
      dsimp only
      simp -implicitDefEqProofs only [evS, evT, evE, evP, evPs, evV, evA, evAnd, evOr, evI, Pv.a0, Pv.a1, Pv.v0, Pv.v1, opd, slotOf, satOp, Pv.two, Pv.one, ob_s, ob_n, sc_int, sc_bl, sc_str, sc_non, bd_ok, bd_exc, thenE_ok, thenE_exc, thenT_ok, thenT_exc, thenA_ok, thenI_ok, fl_nx, fl_ret, fl_exc, fl_bk, fl_ct, fl_nil, evSs_nil, asBl, asInt, un_non, un_bl, un_int, un_str, un_tup, un_lst, un_obj, un_un, fz, fzs, isSc, isScs, isFz, isFzs, isOwn, isOwns, dNeg, dT, tgA, setAll, okS, res, at2, it_tup, it_lst, chnD, lItems, tmps, cpyLoc, cpyTmp, ixTmp, ioPos, outFl, outsOf, fzs_ints, Pv.sto1, Pv.sto2, ownItems, at2_0, at2_1, at3_0, at3_1, at3_2, at4_0, at4_1, at4_2, at4_3, ix_20, ix_21, ix_40, ix_41, ix_42, ix_43, List.length_map, isFzs, d2_add, d2_sub, d2_lt, d2_le, d2_gt, d2_ge, d2_eq, d2_ne, d2_eqs, d2_eqb, d2_isn_non, d2_isn_int, d2_isn_bl, d2_isn_str, d2_isn_tup, d2_isn_lst, d2_notn_non, d2_notn_int, d2_notn_bl, d2_notn_str, d2_notn_tup, d2_notn_lst, d2_mod, d2_fdiv, Int.reduceToNat, Int.reducePow, Int.reduceEq, Int.reduceLT, Int.reduceLE, Int.reduceNeg, Int.reduceMul, Int.reduceAdd, Int.reduceSub, cst0, cst1, cst2, cst3, cst4, cst5, cst6, cst7, cst8, cst9, cst10, cst11, cst12, ne_eq, not_false_eq_true, not_true_eq_false, dF_gcd, dF_lenL, dF_lenT, dF_int, dF_intb, dF_abs, dF_min, dF_max, dI_ii, dI_ib, dI_is, dI_il, dI_it, dI_bi, dI_bb, dI_bs, dI_bl, dI_bt, dI_si, dI_sb, dI_ss, dI_sl, dI_st, dI_li, dI_lb, dI_ls, dI_ll, dI_lt, dI_ti, dI_tb, dI_ts, dI_tl, dI_tt, dI_ni, dI_nb, dI_ns, dI_nl, dI_nt, Option.map_some, List.length_cons, List.length_nil, List.getElem?_cons_zero, List.getElem?_cons_succ, List.getElem?_nil, List.set_cons_zero, List.set_cons_succ, List.set_nil, List.map_cons, List.map_nil, List.cons_append, List.nil_append, List.append_nil, List.replicate, List.getD_cons_zero, List.getD_cons_succ, List.contains_nil, List.contains_cons, Nat.reduceBEq, Bool.or_false, Bool.false_or, Bool.or_self, Bool.or_true, Bool.true_or, List.isEmpty_nil, List.isEmpty_cons, decide_true, decide_false, if_true, if_false, Bool.false_eq_true, Bool.not_true, Bool.not_false, Bool.and_true, Bool.true_and, Bool.and_self, Bool.and_false, Bool.false_and, reduceIte, Nat.zero_add, Nat.reduceAdd, Nat.reduceSub, Nat.reduceLT, Nat.reduceLeDiff, Nat.reduceEqDiff, decide_eq_true_eq, eq_self, Option.some.injEq, reduceCtorEq, Nat.lt_irrefl, evSs_cons, ix0, sa, ix1, nthS]
  | false =>
    have e1 : ∀ Z, callD F_L_is_int [.loc 7] [sc, st, X, r, s, g, Z, fz v, du, t, bo, k, f, to, sp] = some (.ok (.bl (isIntD (fz v))) [sc, st, X, r, s, g, Z, fz v, du, t, bo, k, f, to, sp]) := fun Z => isInt_loc rfl ha
    by_cases c : isIntD (fz v) = true
    · obtain ⟨q, st1, h1, q0, q1, e2⟩ := call_pull (rs := [sc, st, X, r, s, g, .lst true [fz v, .bl false], fz v, du, t, bo, k, f, to, sp]) (s := 1) h (show (0 : Int) < 2 by decide) rfl
      have pw : powOk 10 40 = true := by decide
      obtain ⟨j, rfl⟩ : ∃ j : Nat, q = (j : Int) := ⟨q.toNat, by omega⟩
      have key : ∃ w : Int, L2.atI [D.int (-1), D.int (10000000000000000000000000000000000000000 + 1)] (j : Int) = some (D.int w) ∧ inB (.int w) 0 cFar = false := by
        match j, (show j < 2 by omega) with
        | 0, _ => exact ⟨_, rfl, by decide⟩
        | 1, _ => exact ⟨_, rfl, by decide⟩
      obtain ⟨w, ew, iw⟩ := key
      have es : (10000000000000000000000000000000000000000 : Int) + 1 = 10000000000000000000000000000000000000001 := by decide
      rw [es] at ew
      refine ⟨st1, .lst true [fz v, .bl false], .int w, h1, ⟨rfl, iw⟩, ⟨_, rfl⟩, fun z => (by cases z), ?_⟩
      unfold nthS b_law
      dsimp only
      simp -implicitDefEqProofs only [evS, evT, evE, evP, evPs, evV, evA, evAnd, evOr, evI, Pv.a0, Pv.a1, Pv.v0, Pv.v1, opd, slotOf, satOp, Pv.two, Pv.one, ob_s, ob_n, sc_int, sc_bl, sc_str, sc_non, bd_ok, bd_exc, thenE_ok, thenE_exc, thenT_ok, thenT_exc, thenA_ok, thenI_ok, fl_nx, fl_ret, fl_exc, fl_bk, fl_ct, fl_nil, evSs_nil, asBl, asInt, un_non, un_bl, un_int, un_str, un_tup, un_lst, un_obj, un_un, fz, fzs, isSc, isScs, isFz, isFzs, isOwn, isOwns, dNeg, dT, tgA, setAll, okS, res, at2, it_tup, it_lst, chnD, lItems, tmps, cpyLoc, cpyTmp, ixTmp, ioPos, outFl, outsOf, fzs_ints, Pv.sto1, Pv.sto2, ownItems, at2_0, at2_1, at3_0, at3_1, at3_2, at4_0, at4_1, at4_2, at4_3, ix_20, ix_21, ix_40, ix_41, ix_42, ix_43, List.length_map, isFzs, d2_add, d2_sub, d2_lt, d2_le, d2_gt, d2_ge, d2_eq, d2_ne, d2_eqs, d2_eqb, d2_isn_non, d2_isn_int, d2_isn_bl, d2_isn_str, d2_isn_tup, d2_isn_lst, d2_notn_non, d2_notn_int, d2_notn_bl, d2_notn_str, d2_notn_tup, d2_notn_lst, d2_mod, d2_fdiv, Int.reduceToNat, Int.reducePow, Int.reduceEq, Int.reduceLT, Int.reduceLE, Int.reduceNeg, Int.reduceMul, Int.reduceAdd, Int.reduceSub, cst0, cst1, cst2, cst3, cst4, cst5, cst6, cst7, cst8, cst9, cst10, cst11, cst12, ne_eq, not_false_eq_true, not_true_eq_false, dF_gcd, dF_lenL, dF_lenT, dF_int, dF_intb, dF_abs, dF_min, dF_max, dI_ii, dI_ib, dI_is, dI_il, dI_it, dI_bi, dI_bb, dI_bs, dI_bl, dI_bt, dI_si, dI_sb, dI_ss, dI_sl, dI_st, dI_li, dI_lb, dI_ls, dI_ll, dI_lt, dI_ti, dI_tb, dI_ts, dI_tl, dI_tt, dI_ni, dI_nb, dI_ns, dI_nl, dI_nt, Option.map_some, List.length_cons, List.length_nil, List.getElem?_cons_zero, List.getElem?_cons_succ, List.getElem?_nil, List.set_cons_zero, List.set_cons_succ, List.set_nil, List.map_cons, List.map_nil, List.cons_append, List.nil_append, List.append_nil, List.replicate, List.getD_cons_zero, List.getD_cons_succ, List.contains_nil, List.contains_cons, Nat.reduceBEq, Bool.or_false, Bool.false_or, Bool.or_self, Bool.or_true, Bool.true_or, List.isEmpty_nil, List.isEmpty_cons, decide_true, decide_false, if_true, if_false, Bool.false_eq_true, Bool.not_true, Bool.not_false, Bool.and_true, Bool.true_and, Bool.and_self, Bool.and_false, Bool.false_and, reduceIte, Nat.zero_add, Nat.reduceAdd, Nat.reduceSub, Nat.reduceLT, Nat.reduceLeDiff, Nat.reduceEqDiff, decide_eq_true_eq, eq_self, Option.some.injEq, reduceCtorEq, Nat.lt_irrefl, evSs_cons, ix0, sa, ix1, nthS, uz, zz, e1, c, d2_pow pw, h.un, e2, ew, es]
    · have c : isIntD (fz v) = false := by simpa using c
      refine ⟨st, .lst true [fz v, .bl false], fz v, h, ⟨ha, ?_⟩, ⟨_, rfl⟩, fun z => (by cases z), ?_⟩
      · cases v <;> first | rfl | (simp [isIntD, fz] at c)
      unfold nthS b_law
      dsimp only
      simp -implicitDefEqProofs only [evS, evT, evE, evP, evPs, evV, evA, evAnd, evOr, evI, Pv.a0, Pv.a1, Pv.v0, Pv.v1, opd, slotOf, satOp, Pv.two, Pv.one, ob_s, ob_n, sc_int, sc_bl, sc_str, sc_non, bd_ok, bd_exc, thenE_ok, thenE_exc, thenT_ok, thenT_exc, thenA_ok, thenI_ok, fl_nx, fl_ret, fl_exc, fl_bk, fl_ct, fl_nil, evSs_nil, asBl, asInt, un_non, un_bl, un_int, un_str, un_tup, un_lst, un_obj, un_un, fz, fzs, isSc, isScs, isFz, isFzs, isOwn, isOwns, dNeg, dT, tgA, setAll, okS, res, at2, it_tup, it_lst, chnD, lItems, tmps, cpyLoc, cpyTmp, ixTmp, ioPos, outFl, outsOf, fzs_ints, Pv.sto1, Pv.sto2, ownItems, at2_0, at2_1, at3_0, at3_1, at3_2, at4_0, at4_1, at4_2, at4_3, ix_20, ix_21, ix_40, ix_41, ix_42, ix_43, List.length_map, isFzs, d2_add, d2_sub, d2_lt, d2_le, d2_gt, d2_ge, d2_eq, d2_ne, d2_eqs, d2_eqb, d2_isn_non, d2_isn_int, d2_isn_bl, d2_isn_str, d2_isn_tup, d2_isn_lst, d2_notn_non, d2_notn_int, d2_notn_bl, d2_notn_str, d2_notn_tup, d2_notn_lst, d2_mod, d2_fdiv, Int.reduceToNat, Int.reducePow, Int.reduceEq, Int.reduceLT, Int.reduceLE, Int.reduceNeg, Int.reduceMul, Int.reduceAdd, Int.reduceSub, cst0, cst1, cst2, cst3, cst4, cst5, cst6, cst7, cst8, cst9, cst10, cst11, cst12, ne_eq, not_false_eq_true, not_true_eq_false, dF_gcd, dF_lenL, dF_lenT, dF_int, dF_intb, dF_abs, dF_min, dF_max, dI_ii, dI_ib, dI_is, dI_il, dI_it, dI_bi, dI_bb, dI_bs, dI_bl, dI_bt, dI_si, dI_sb, dI_ss, dI_sl, dI_st, dI_li, dI_lb, dI_ls, dI_ll, dI_lt, dI_ti, dI_tb, dI_ts, dI_tl, dI_tt, dI_ni, dI_nb, dI_ns, dI_nl, dI_nt, Option.map_some, List.length_cons, List.length_nil, List.getElem?_cons_zero, List.getElem?_cons_succ, List.getElem?_nil, List.set_cons_zero, List.set_cons_succ, List.set_nil, List.map_cons, List.map_nil, List.cons_append, List.nil_append, List.append_nil, List.replicate, List.getD_cons_zero, List.getD_cons_succ, List.contains_nil, List.contains_cons, Nat.reduceBEq, Bool.or_false, Bool.false_or, Bool.or_self, Bool.or_true, Bool.true_or, List.isEmpty_nil, List.isEmpty_cons, decide_true, decide_false, if_true, if_false, Bool.false_eq_true, Bool.not_true, Bool.not_false, Bool.and_true, Bool.true_and, Bool.and_self, Bool.and_false, Bool.false_and, reduceIte, Nat.zero_add, Nat.reduceAdd, Nat.reduceSub, Nat.reduceLT, Nat.reduceLeDiff, Nat.reduceEqDiff, decide_eq_true_eq, eq_self, Option.some.injEq, reduceCtorEq, Nat.lt_irrefl, evSs_cons, ix0, sa, ix1, nthS, uz, zz, e1, c]
def dueD (b : Bool) (g : Int) (c : Bool) : D := if b = false then .tup [.str "refused", .str "root"] else if g = 0 then .tup [.str "refused", .str "start"] else if c = false then .tup [.str "refused", .str "n"] else .non
theorem law12 (sc st r s n t bo k f to sp du w z : D) (b c : Bool) (q : Int) : ob (evS 0 [] (nthS b_law 11) [sc, st, .lst true [w, .bl b], r, s, .int q, .lst true [z, .bl c], n, du, t, bo, k, f, to, sp]) (fun fl => Fl.bd (some fl) (evS 0 [] (nthS b_law 12))) = some (.nx [sc, st, .lst true [w, .bl b], r, s, .int q, .lst true [z, .bl c], n, dueD b q c, t, bo, k, f, to, sp]) := by
  have i2 : ∀ y, ixLoc 2 (.int 1) [sc, st, .lst true [w, .bl b], r, s, .int q, .lst true [z, .bl c], n, y, t, bo, k, f, to, sp] = some (.ok (.bl b) [sc, st, .lst true [w, .bl b], r, s, .int q, .lst true [z, .bl c], n, y, t, bo, k, f, to, sp]) := fun y => ixLoc_at (s := 2) (k := 1) (rs := [sc, st, .lst true [w, .bl b], r, s, .int q, .lst true [z, .bl c], n, y, t, bo, k, f, to, sp]) (d := .lst true [w, .bl b]) (c := .bl b) rfl rfl rfl
  have i6 : ∀ y, ixLoc 6 (.int 1) [sc, st, .lst true [w, .bl b], r, s, .int q, .lst true [z, .bl c], n, y, t, bo, k, f, to, sp] = some (.ok (.bl c) [sc, st, .lst true [w, .bl b], r, s, .int q, .lst true [z, .bl c], n, y, t, bo, k, f, to, sp]) := fun y => ixLoc_at (s := 6) (k := 1) (rs := [sc, st, .lst true [w, .bl b], r, s, .int q, .lst true [z, .bl c], n, y, t, bo, k, f, to, sp]) (d := .lst true [z, .bl c]) (c := .bl c) rfl rfl rfl
  unfold nthS b_law dueD
  dsimp only
  cases b with
  | false => simp -implicitDefEqProofs only [evS, evT, evE, evP, evPs, evV, evA, evAnd, evOr, evI, Pv.a0, Pv.a1, Pv.v0, Pv.v1, opd, slotOf, satOp, Pv.two, Pv.one, ob_s, ob_n, sc_int, sc_bl, sc_str, sc_non, bd_ok, bd_exc, thenE_ok, thenE_exc, thenT_ok, thenT_exc, thenA_ok, thenI_ok, fl_nx, fl_ret, fl_exc, fl_bk, fl_ct, fl_nil, evSs_nil, asBl, asInt, un_non, un_bl, un_int, un_str, un_tup, un_lst, un_obj, un_un, fz, fzs, isSc, isScs, isFz, isFzs, isOwn, isOwns, dNeg, dT, tgA, setAll, okS, res, at2, it_tup, it_lst, chnD, lItems, tmps, cpyLoc, cpyTmp, ixTmp, ioPos, outFl, outsOf, fzs_ints, Pv.sto1, Pv.sto2, ownItems, at2_0, at2_1, at3_0, at3_1, at3_2, at4_0, at4_1, at4_2, at4_3, ix_20, ix_21, ix_40, ix_41, ix_42, ix_43, List.length_map, isFzs, d2_add, d2_sub, d2_lt, d2_le, d2_gt, d2_ge, d2_eq, d2_ne, d2_eqs, d2_eqb, d2_isn_non, d2_isn_int, d2_isn_bl, d2_isn_str, d2_isn_tup, d2_isn_lst, d2_notn_non, d2_notn_int, d2_notn_bl, d2_notn_str, d2_notn_tup, d2_notn_lst, d2_mod, d2_fdiv, Int.reduceToNat, Int.reducePow, Int.reduceEq, Int.reduceLT, Int.reduceLE, Int.reduceNeg, Int.reduceMul, Int.reduceAdd, Int.reduceSub, cst0, cst1, cst2, cst3, cst4, cst5, cst6, cst7, cst8, cst9, cst10, cst11, cst12, ne_eq, not_false_eq_true, not_true_eq_false, dF_gcd, dF_lenL, dF_lenT, dF_int, dF_intb, dF_abs, dF_min, dF_max, dI_ii, dI_ib, dI_is, dI_il, dI_it, dI_bi, dI_bb, dI_bs, dI_bl, dI_bt, dI_si, dI_sb, dI_ss, dI_sl, dI_st, dI_li, dI_lb, dI_ls, dI_ll, dI_lt, dI_ti, dI_tb, dI_ts, dI_tl, dI_tt, dI_ni, dI_nb, dI_ns, dI_nl, dI_nt, Option.map_some, List.length_cons, List.length_nil, List.getElem?_cons_zero, List.getElem?_cons_succ, List.getElem?_nil, List.set_cons_zero, List.set_cons_succ, List.set_nil, List.map_cons, List.map_nil, List.cons_append, List.nil_append, List.append_nil, List.replicate, List.getD_cons_zero, List.getD_cons_succ, List.contains_nil, List.contains_cons, Nat.reduceBEq, Bool.or_false, Bool.false_or, Bool.or_self, Bool.or_true, Bool.true_or, List.isEmpty_nil, List.isEmpty_cons, decide_true, decide_false, if_true, if_false, Bool.false_eq_true, Bool.not_true, Bool.not_false, Bool.and_true, Bool.true_and, Bool.and_self, Bool.and_false, Bool.false_and, reduceIte, Nat.zero_add, Nat.reduceAdd, Nat.reduceSub, Nat.reduceLT, Nat.reduceLeDiff, Nat.reduceEqDiff, decide_eq_true_eq, eq_self, Option.some.injEq, reduceCtorEq, Nat.lt_irrefl, evSs_cons, i2, i6, nthS]
  | true =>
    by_cases h : q = 0
    · subst h
      simp -implicitDefEqProofs only [evS, evT, evE, evP, evPs, evV, evA, evAnd, evOr, evI, Pv.a0, Pv.a1, Pv.v0, Pv.v1, opd, slotOf, satOp, Pv.two, Pv.one, ob_s, ob_n, sc_int, sc_bl, sc_str, sc_non, bd_ok, bd_exc, thenE_ok, thenE_exc, thenT_ok, thenT_exc, thenA_ok, thenI_ok, fl_nx, fl_ret, fl_exc, fl_bk, fl_ct, fl_nil, evSs_nil, asBl, asInt, un_non, un_bl, un_int, un_str, un_tup, un_lst, un_obj, un_un, fz, fzs, isSc, isScs, isFz, isFzs, isOwn, isOwns, dNeg, dT, tgA, setAll, okS, res, at2, it_tup, it_lst, chnD, lItems, tmps, cpyLoc, cpyTmp, ixTmp, ioPos, outFl, outsOf, fzs_ints, Pv.sto1, Pv.sto2, ownItems, at2_0, at2_1, at3_0, at3_1, at3_2, at4_0, at4_1, at4_2, at4_3, ix_20, ix_21, ix_40, ix_41, ix_42, ix_43, List.length_map, isFzs, d2_add, d2_sub, d2_lt, d2_le, d2_gt, d2_ge, d2_eq, d2_ne, d2_eqs, d2_eqb, d2_isn_non, d2_isn_int, d2_isn_bl, d2_isn_str, d2_isn_tup, d2_isn_lst, d2_notn_non, d2_notn_int, d2_notn_bl, d2_notn_str, d2_notn_tup, d2_notn_lst, d2_mod, d2_fdiv, Int.reduceToNat, Int.reducePow, Int.reduceEq, Int.reduceLT, Int.reduceLE, Int.reduceNeg, Int.reduceMul, Int.reduceAdd, Int.reduceSub, cst0, cst1, cst2, cst3, cst4, cst5, cst6, cst7, cst8, cst9, cst10, cst11, cst12, ne_eq, not_false_eq_true, not_true_eq_false, dF_gcd, dF_lenL, dF_lenT, dF_int, dF_intb, dF_abs, dF_min, dF_max, dI_ii, dI_ib, dI_is, dI_il, dI_it, dI_bi, dI_bb, dI_bs, dI_bl, dI_bt, dI_si, dI_sb, dI_ss, dI_sl, dI_st, dI_li, dI_lb, dI_ls, dI_ll, dI_lt, dI_ti, dI_tb, dI_ts, dI_tl, dI_tt, dI_ni, dI_nb, dI_ns, dI_nl, dI_nt, Option.map_some, List.length_cons, List.length_nil, List.getElem?_cons_zero, List.getElem?_cons_succ, List.getElem?_nil, List.set_cons_zero, List.set_cons_succ, List.set_nil, List.map_cons, List.map_nil, List.cons_append, List.nil_append, List.append_nil, List.replicate, List.getD_cons_zero, List.getD_cons_succ, List.contains_nil, List.contains_cons, Nat.reduceBEq, Bool.or_false, Bool.false_or, Bool.or_self, Bool.or_true, Bool.true_or, List.isEmpty_nil, List.isEmpty_cons, decide_true, decide_false, if_true, if_false, Bool.false_eq_true, Bool.not_true, Bool.not_false, Bool.and_true, Bool.true_and, Bool.and_self, Bool.and_false, Bool.false_and, reduceIte, Nat.zero_add, Nat.reduceAdd, Nat.reduceSub, Nat.reduceLT, Nat.reduceLeDiff, Nat.reduceEqDiff, decide_eq_true_eq, eq_self, Option.some.injEq, reduceCtorEq, Nat.lt_irrefl, evSs_cons, i2, i6, nthS]
    · cases c with
      | false => simp -implicitDefEqProofs only [evS, evT, evE, evP, evPs, evV, evA, evAnd, evOr, evI, Pv.a0, Pv.a1, Pv.v0, Pv.v1, opd, slotOf, satOp, Pv.two, Pv.one, ob_s, ob_n, sc_int, sc_bl, sc_str, sc_non, bd_ok, bd_exc, thenE_ok, thenE_exc, thenT_ok, thenT_exc, thenA_ok, thenI_ok, fl_nx, fl_ret, fl_exc, fl_bk, fl_ct, fl_nil, evSs_nil, asBl, asInt, un_non, un_bl, un_int, un_str, un_tup, un_lst, un_obj, un_un, fz, fzs, isSc, isScs, isFz, isFzs, isOwn, isOwns, dNeg, dT, tgA, setAll, okS, res, at2, it_tup, it_lst, chnD, lItems, tmps, cpyLoc, cpyTmp, ixTmp, ioPos, outFl, outsOf, fzs_ints, Pv.sto1, Pv.sto2, ownItems, at2_0, at2_1, at3_0, at3_1, at3_2, at4_0, at4_1, at4_2, at4_3, ix_20, ix_21, ix_40, ix_41, ix_42, ix_43, List.length_map, isFzs, d2_add, d2_sub, d2_lt, d2_le, d2_gt, d2_ge, d2_eq, d2_ne, d2_eqs, d2_eqb, d2_isn_non, d2_isn_int, d2_isn_bl, d2_isn_str, d2_isn_tup, d2_isn_lst, d2_notn_non, d2_notn_int, d2_notn_bl, d2_notn_str, d2_notn_tup, d2_notn_lst, d2_mod, d2_fdiv, Int.reduceToNat, Int.reducePow, Int.reduceEq, Int.reduceLT, Int.reduceLE, Int.reduceNeg, Int.reduceMul, Int.reduceAdd, Int.reduceSub, cst0, cst1, cst2, cst3, cst4, cst5, cst6, cst7, cst8, cst9, cst10, cst11, cst12, ne_eq, not_false_eq_true, not_true_eq_false, dF_gcd, dF_lenL, dF_lenT, dF_int, dF_intb, dF_abs, dF_min, dF_max, dI_ii, dI_ib, dI_is, dI_il, dI_it, dI_bi, dI_bb, dI_bs, dI_bl, dI_bt, dI_si, dI_sb, dI_ss, dI_sl, dI_st, dI_li, dI_lb, dI_ls, dI_ll, dI_lt, dI_ti, dI_tb, dI_ts, dI_tl, dI_tt, dI_ni, dI_nb, dI_ns, dI_nl, dI_nt, Option.map_some, List.length_cons, List.length_nil, List.getElem?_cons_zero, List.getElem?_cons_succ, List.getElem?_nil, List.set_cons_zero, List.set_cons_succ, List.set_nil, List.map_cons, List.map_nil, List.cons_append, List.nil_append, List.append_nil, List.replicate, List.getD_cons_zero, List.getD_cons_succ, List.contains_nil, List.contains_cons, Nat.reduceBEq, Bool.or_false, Bool.false_or, Bool.or_self, Bool.or_true, Bool.true_or, List.isEmpty_nil, List.isEmpty_cons, decide_true, decide_false, if_true, if_false, Bool.false_eq_true, Bool.not_true, Bool.not_false, Bool.and_true, Bool.true_and, Bool.and_self, Bool.and_false, Bool.false_and, reduceIte, Nat.zero_add, Nat.reduceAdd, Nat.reduceSub, Nat.reduceLT, Nat.reduceLeDiff, Nat.reduceEqDiff, decide_eq_true_eq, eq_self, Option.some.injEq, reduceCtorEq, Nat.lt_irrefl, evSs_cons, i2, i6, nthS, h]
      | true => simp -implicitDefEqProofs only [evS, evT, evE, evP, evPs, evV, evA, evAnd, evOr, evI, Pv.a0, Pv.a1, Pv.v0, Pv.v1, opd, slotOf, satOp, Pv.two, Pv.one, ob_s, ob_n, sc_int, sc_bl, sc_str, sc_non, bd_ok, bd_exc, thenE_ok, thenE_exc, thenT_ok, thenT_exc, thenA_ok, thenI_ok, fl_nx, fl_ret, fl_exc, fl_bk, fl_ct, fl_nil, evSs_nil, asBl, asInt, un_non, un_bl, un_int, un_str, un_tup, un_lst, un_obj, un_un, fz, fzs, isSc, isScs, isFz, isFzs, isOwn, isOwns, dNeg, dT, tgA, setAll, okS, res, at2, it_tup, it_lst, chnD, lItems, tmps, cpyLoc, cpyTmp, ixTmp, ioPos, outFl, outsOf, fzs_ints, Pv.sto1, Pv.sto2, ownItems, at2_0, at2_1, at3_0, at3_1, at3_2, at4_0, at4_1, at4_2, at4_3, ix_20, ix_21, ix_40, ix_41, ix_42, ix_43, List.length_map, isFzs, d2_add, d2_sub, d2_lt, d2_le, d2_gt, d2_ge, d2_eq, d2_ne, d2_eqs, d2_eqb, d2_isn_non, d2_isn_int, d2_isn_bl, d2_isn_str, d2_isn_tup, d2_isn_lst, d2_notn_non, d2_notn_int, d2_notn_bl, d2_notn_str, d2_notn_tup, d2_notn_lst, d2_mod, d2_fdiv, Int.reduceToNat, Int.reducePow, Int.reduceEq, Int.reduceLT, Int.reduceLE, Int.reduceNeg, Int.reduceMul, Int.reduceAdd, Int.reduceSub, cst0, cst1, cst2, cst3, cst4, cst5, cst6, cst7, cst8, cst9, cst10, cst11, cst12, ne_eq, not_false_eq_true, not_true_eq_false, dF_gcd, dF_lenL, dF_lenT, dF_int, dF_intb, dF_abs, dF_min, dF_max, dI_ii, dI_ib, dI_is, dI_il, dI_it, dI_bi, dI_bb, dI_bs, dI_bl, dI_bt, dI_si, dI_sb, dI_ss, dI_sl, dI_st, dI_li, dI_lb, dI_ls, dI_ll, dI_lt, dI_ti, dI_tb, dI_ts, dI_tl, dI_tt, dI_ni, dI_nb, dI_ns, dI_nl, dI_nt, Option.map_some, List.length_cons, List.length_nil, List.getElem?_cons_zero, List.getElem?_cons_succ, List.getElem?_nil, List.set_cons_zero, List.set_cons_succ, List.set_nil, List.map_cons, List.map_nil, List.cons_append, List.nil_append, List.append_nil, List.replicate, List.getD_cons_zero, List.getD_cons_succ, List.contains_nil, List.contains_cons, Nat.reduceBEq, Bool.or_false, Bool.false_or, Bool.or_self, Bool.or_true, Bool.true_or, List.isEmpty_nil, List.isEmpty_cons, decide_true, decide_false, if_true, if_false, Bool.false_eq_true, Bool.not_true, Bool.not_false, Bool.and_true, Bool.true_and, Bool.and_self, Bool.and_false, Bool.false_and, reduceIte, Nat.zero_add, Nat.reduceAdd, Nat.reduceSub, Nat.reduceLT, Nat.reduceLeDiff, Nat.reduceEqDiff, decide_eq_true_eq, eq_self, Option.some.injEq, reduceCtorEq, Nat.lt_irrefl, evSs_cons, i2, i6, nthS, h]
def loopB : Ss := match nthS b_law 16 with
  | .for_ _ _ b => b
  | _ => .nil
theorem law_prod (sc st X g Y n du f to sp : D) {R S : Int} (hR : -25 ≤ R ∧ R ≤ 1) (hS : S.natAbs < 2 ^ 133) : ∀ (m j : Nat) (x : D) (t b : Int), j + m ≤ 40 → t = tp R S j → b = bp S j → t.natAbs < 2 ^ (1 + 136 * j) → b.natAbs < 2 ^ (1 + 136 * j) →
    ∃ x', forL (tgA [] (.nm 11)) (evSs 0 [] loopB) (rngD (j : Int) m) [sc, st, X, .int R, .int S, g, Y, n, du, .int t, .int b, x, f, to, sp] = some (.nx [sc, st, X, .int R, .int S, g, Y, n, du, .int (tp R S (j + m)), .int (bp S (j + m)), x', f, to, sp])
  | 0, j, x, t, b, hj, ht, hb, h1, h2 => by
    subst ht; subst hb
    exact ⟨x, rfl⟩
  | m + 1, j, x, t, b, hj, ht, hb, h1, h2 => by
    have a1 : (S + (j : Int) + R).natAbs < 2 ^ 136 := by omega
    have a2 : (S + (j : Int)).natAbs < 2 ^ 136 := by omega
    have m1 : mulOk t (S + (j : Int) + R) = true := mul_of _ _ h1 a1 (by omega) (by omega)
    have m2 : mulOk b (S + (j : Int)) = true := mul_of _ _ h2 a2 (by omega) (by omega)
    obtain ⟨x', ih⟩ := law_prod sc st X g Y n du f to sp hR hS m (j + 1) (.int (j : Int)) (t * (S + (j : Int) + R)) (b * (S + (j : Int))) (by omega)
      (by rw [ht]; rfl) (by rw [hb]; rfl)
      (by have := mul_step h1 a1; rw [show 1 + 136 * (j + 1) = 1 + 136 * j + 136 by omega]; exact this)
      (by have := mul_step h2 a2; rw [show 1 + 136 * (j + 1) = 1 + 136 * j + 136 by omega]; exact this)
    have ej : j + 1 + m = j + (m + 1) := by omega
    rw [ej] at ih
    refine ⟨x', ?_⟩
    rw [← ih]
    have er := rngD_succ (j : Int) m
    rw [show (j : Int) + 1 = ((j + 1 : Nat) : Int) by omega] at er
    rw [er]
    simp only [forL]
    unfold loopB nthS b_law
    simp only [nthS]
    simp -implicitDefEqProofs only [evS, evT, evE, evP, evPs, evV, evA, evAnd, evOr, evI, Pv.a0, Pv.a1, Pv.v0, Pv.v1, opd, slotOf, satOp, Pv.two, Pv.one, ob_s, ob_n, sc_int, sc_bl, sc_str, sc_non, bd_ok, bd_exc, thenE_ok, thenE_exc, thenT_ok, thenT_exc, thenA_ok, thenI_ok, fl_nx, fl_ret, fl_exc, fl_bk, fl_ct, fl_nil, evSs_nil, asBl, asInt, un_non, un_bl, un_int, un_str, un_tup, un_lst, un_obj, un_un, fz, fzs, isSc, isScs, isFz, isFzs, isOwn, isOwns, dNeg, dT, tgA, setAll, okS, res, at2, it_tup, it_lst, chnD, lItems, tmps, cpyLoc, cpyTmp, ixTmp, ioPos, outFl, outsOf, fzs_ints, Pv.sto1, Pv.sto2, ownItems, at2_0, at2_1, at3_0, at3_1, at3_2, at4_0, at4_1, at4_2, at4_3, ix_20, ix_21, ix_40, ix_41, ix_42, ix_43, List.length_map, isFzs, d2_add, d2_sub, d2_lt, d2_le, d2_gt, d2_ge, d2_eq, d2_ne, d2_eqs, d2_eqb, d2_isn_non, d2_isn_int, d2_isn_bl, d2_isn_str, d2_isn_tup, d2_isn_lst, d2_notn_non, d2_notn_int, d2_notn_bl, d2_notn_str, d2_notn_tup, d2_notn_lst, d2_mod, d2_fdiv, Int.reduceToNat, Int.reducePow, Int.reduceEq, Int.reduceLT, Int.reduceLE, Int.reduceNeg, Int.reduceMul, Int.reduceAdd, Int.reduceSub, cst0, cst1, cst2, cst3, cst4, cst5, cst6, cst7, cst8, cst9, cst10, cst11, cst12, ne_eq, not_false_eq_true, not_true_eq_false, dF_gcd, dF_lenL, dF_lenT, dF_int, dF_intb, dF_abs, dF_min, dF_max, dI_ii, dI_ib, dI_is, dI_il, dI_it, dI_bi, dI_bb, dI_bs, dI_bl, dI_bt, dI_si, dI_sb, dI_ss, dI_sl, dI_st, dI_li, dI_lb, dI_ls, dI_ll, dI_lt, dI_ti, dI_tb, dI_ts, dI_tl, dI_tt, dI_ni, dI_nb, dI_ns, dI_nl, dI_nt, Option.map_some, List.length_cons, List.length_nil, List.getElem?_cons_zero, List.getElem?_cons_succ, List.getElem?_nil, List.set_cons_zero, List.set_cons_succ, List.set_nil, List.map_cons, List.map_nil, List.cons_append, List.nil_append, List.append_nil, List.replicate, List.getD_cons_zero, List.getD_cons_succ, List.contains_nil, List.contains_cons, Nat.reduceBEq, Bool.or_false, Bool.false_or, Bool.or_self, Bool.or_true, Bool.true_or, List.isEmpty_nil, List.isEmpty_cons, decide_true, decide_false, if_true, if_false, Bool.false_eq_true, Bool.not_true, Bool.not_false, Bool.and_true, Bool.true_and, Bool.and_self, Bool.and_false, Bool.false_and, reduceIte, Nat.zero_add, Nat.reduceAdd, Nat.reduceSub, Nat.reduceLT, Nat.reduceLeDiff, Nat.reduceEqDiff, decide_eq_true_eq, eq_self, Option.some.injEq, reduceCtorEq, Nat.lt_irrefl, evSs_cons, d2_mul m1, d2_mul m2]
theorem FB.mono {a b : Nat} {p : Int × Int} (h : FB a p) (hab : a ≤ b) : FB b p := ⟨Nat.lt_of_lt_of_le h.1 (pow_mono2 hab), h.2.1, Nat.lt_of_lt_of_le h.2.2 (pow_mono2 hab)⟩
theorem fac_low {R S : Int} {n : Nat} (hS : 1 ≤ S) : 1 ≤ (facI R S n).2 ∧ Nat.Coprime (facI R S n).1.natAbs (facI R S n).2.natAbs := by
  obtain ⟨_, _, _, _, h1, h2⟩ := low_spec (a := tp R S n) (bp_pos hS n)
  exact ⟨h1, h2⟩
def tl : Nat → Ss → Ss
  | 0, s => s
  | n + 1, .cons _ r => tl n r
  | _ + 1, .nil => .nil
/-- behind the refusals -/
theorem law_end (sc st X Y t b k f to sp : D) {R S N g : Int} (h : StOk st) (hR : -25 ≤ R ∧ R ≤ 1) (hS0 : 1 ≤ S) (hS : S.natAbs < 2 ^ 133) (hN : 0 ≤ N ∧ N ≤ 40) : ∃ rs, evSs 0 [] (tl 14 b_law) [sc, st, X, .int R, .int S, .int g, Y, .int N, .non, t, b, k, f, to, sp] = some (.ret (.bl true) rs) := by
  obtain ⟨j, rfl⟩ : ∃ j : Nat, N = (j : Int) := ⟨N.toNat, by omega⟩
  obtain ⟨x', el⟩ := law_prod sc st X (.int g) Y (.int (j : Int)) .non f to sp hR hS j 0 k 1 1 (by omega) rfl rfl (by decide) (by decide)
  rw [Nat.zero_add] at el
  obtain ⟨w, st1, h1, w0, w1, e1⟩ := call_big (rs := [sc, st, X, .int R, .int S, .int g, Y, .int (j : Int), .non, .int (tp R S j), .int (bp S j), x', f, to, sp]) (s := 1) (many := 10000000000000000000000000000000000000000) h (by decide) rfl
  obtain ⟨q, rfl⟩ : ∃ q : Nat, w = (q : Int) := ⟨w.toNat, by omega⟩
  have pw : powOk 10 40 = true := by decide
  have S134 : S.natAbs < 2 ^ 134 := by omega
  have sR : ask1 (.int R) = true := rfl
  have bR : inB (.int R) (-25) 1 = true := by simp [inB, hR.1, hR.2]
  have bS : isPos (.int S) = true := by simp [isPos, hS0]
  have far : ∀ x : Int, 0 ≤ x → x ≤ 10000000000000000000000000000000000000000 → inB (.int x) 0 cFar = true := fun x a b => by
    simp only [inB, Bool.and_eq_true, decide_eq_true_eq]
    exact ⟨a, b⟩
  have ans : ∀ x : Int, 0 ≤ x → x ≤ 10000000000000000000000000000000000000000 → facR (.int R) (.int S) (.int x) = .ret (frD (facI R S x.toNat)) [] := fun x a b => by
    unfold facR
    rw [if_neg (by rw [bR]; decide), if_neg (by rw [bS]; decide), if_neg (by rw [far x a b]; decide)]
  have bS' : ∀ i, D.int S = .int i → i.natAbs < 2 ^ 134 := fun i e => by cases e; exact S134
  have q0 := ans (j : Int) (by omega) (by omega)
  have q1 := ans (q : Int) (by omega) (by omega)
  have q2 := ans ((q : Int) + 1) (by omega) (by omega)
  have t0 : ((j : Int)).toNat = j := Int.toNat_natCast _
  have t1 : ((q : Int)).toNat = q := Int.toNat_natCast _
  have t2 : ((q : Int) + 1).toNat = q + 1 := by omega
  rw [t0] at q0
  rw [t1] at q1
  rw [t2] at q2
  -- the first question
  have c1 : ∀ rs, rs[3]? = some (.int R) → rs[4]? = some (.int S) → rs[7]? = some (.int (j : Int)) → callD F_L_asked [.loc 3, .loc 4, .loc 7] rs = some (.ok (.tup [.str "told", frD (facI R S j)]) rs) := fun rs a b c => call_v3 (by
    rw [res_loc a, res_loc b, res_loc c]
    have e := ask_eq (r := .int R) (s := .int S) (n := .int (j : Int)) rfl rfl rfl bS'
    rw [q0] at e
    exact e) rfl
  have hbp : bp S j ≠ 0 := by have := bp_pos hS0 j; omega
  have c2 : ∀ rs, rs[9]? = some (.int (tp R S j)) → rs[10]? = some (.int (bp S j)) → callD F_L_low [.loc 9, .loc 10] rs = some (.ok (frD (facI R S j)) rs) := fun rs a b => call_L_low (by rw [res_loc a]; rfl) (by rw [res_loc b]; rfl) hbp
  have c3 : ∀ rs, callD (F_L_same 8) [.tmp (.tup [.str "told", frD (facI R S j)]), .tmp (.tup [.str "told", frD (facI R S j)])] rs = some (.ok (.bl true) rs) := fun rs => call_v2 (same_of (k := 8) (d := .tup [.str "told", frD (facI R S j)]) rfl) rfl
  have c4 : ∀ rs, rs[3]? = some (.int R) → rs[4]? = some (.int S) → rs[12]? = some (.int (q : Int)) → callD F_factor [.loc 3, .loc 4, .loc 12] rs = some (.ok (frD (facI R S q)) rs) := fun rs a b c => call_v3 (by
    rw [res_loc a, res_loc b, res_loc c]
    have e := factor_eq (r := .int R) (s := .int S) (n := .int (q : Int)) rfl rfl rfl bS'
    rw [q1] at e
    exact e) rfl
  obtain ⟨p1, p2⟩ := fac_low (R := R) (n := q) hS0
  have c5 : ∀ rs, rs[13]? = some (frD (facI R S q)) → callD F_L_is_fraction [.loc 13] rs = some (.ok (.bl true) rs) := fun rs a => call_v1 (by
    rw [res_loc a]
    exact isf_eq p1 p2) rfl
  have c6 : ∀ rs, callD F_L_low [.tmp (.int (S + (q : Int) + R)), .tmp (.int (S + (q : Int)))] rs = some (.ok (frD (lowI (S + (q : Int) + R) (S + (q : Int)))) rs) := fun rs => call_L_low rfl rfl (by omega)
  have c7 : ∀ rs, rs[3]? = some (.int R) → rs[4]? = some (.int S) → callD F_factor [.loc 3, .loc 4, .tmp (.int ((q : Int) + 1))] rs = some (.ok (frD (facI R S (q + 1))) rs) := fun rs a b => call_v3 (by
    rw [res_loc a, res_loc b]
    have e := factor_eq (r := .int R) (s := .int S) (n := .int ((q : Int) + 1)) rfl rfl rfl bS'
    rw [q2] at e
    exact e) rfl
  have fb1 : FB 4000 (facI R S q) := by
    have e := (fac_ev (r := R) (s := S) (n := (q : Int)) (by
      simp only [facOk, Bool.and_eq_true, decide_eq_true_eq]
      exact ⟨hR, ⟨hS0, S134⟩, by omega, by omega⟩)).1
    rw [t1] at e
    exact e
  have fb2 : FB 4000 (lowI (S + (q : Int) + R) (S + (q : Int))) := FB.mono (lowI_fb (n := 135) (by omega) (by omega) (by omega)) (by decide)
  have c8 : ∀ rs, rs[13]? = some (frD (facI R S q)) → rs[14]? = some (frD (lowI (S + (q : Int) + R) (S + (q : Int)))) → callD F_L_times [.loc 13, .loc 14] rs = some (.ok (frD (facI R S (q + 1))) rs) := fun rs a b => call_v2 (by
    rw [res_loc a, res_loc b]
    have e := times_eq (n := 4000) (by decide) (by decide) fb1 fb2
    rw [fac_step hS0] at e
    exact e) rfl
  have c9 : ∀ rs, callD (F_L_same 8) [.tmp (frD (facI R S (q + 1))), .tmp (frD (facI R S (q + 1)))] rs = some (.ok (.bl true) rs) := fun rs => call_v2 (same_of (k := 8) (d := frD (facI R S (q + 1))) rfl) rfl
  unfold frD at c1 c2 c3 c4 c5 c6 c7 c8 c9
  have eb : rngB (j : Int) = true := by unfold rngB; simp only [Bool.and_eq_true, decide_eq_true_eq]; omega
  have e00 : ((0 : Nat) : Int) = 0 := rfl
  rw [e00] at el
  unfold loopB nthS b_law at el
  simp only [nthS] at el
  refine ⟨[sc, st1, X, .int R, .int S, .int g, Y, .int (j : Int), .non, .int (tp R S j), .int (bp S j), x', .int (q : Int), .tup [.int (facI R S q).1, .int (facI R S q).2], .tup [.int (lowI (S + (q : Int) + R) (S + (q : Int))).1, .int (lowI (S + (q : Int) + R) (S + (q : Int))).2]], ?_⟩
  unfold b_law tl
  simp only [tl]
  rw [evSs_cons]; simp -implicitDefEqProofs only [evS, evT, evE, evP, evPs, evV, evA, evAnd, evOr, evI, Pv.a0, Pv.a1, Pv.v0, Pv.v1, opd, slotOf, satOp, Pv.two, Pv.one, ob_s, ob_n, sc_int, sc_bl, sc_str, sc_non, bd_ok, bd_exc, thenE_ok, thenE_exc, thenT_ok, thenT_exc, thenA_ok, thenI_ok, fl_nx, fl_ret, fl_exc, fl_bk, fl_ct, fl_nil, evSs_nil, asBl, asInt, un_non, un_bl, un_int, un_str, un_tup, un_lst, un_obj, un_un, fz, fzs, isSc, isScs, isFz, isFzs, isOwn, isOwns, dNeg, dT, tgA, setAll, okS, res, at2, it_tup, it_lst, chnD, lItems, tmps, cpyLoc, cpyTmp, ixTmp, ioPos, outFl, outsOf, fzs_ints, Pv.sto1, Pv.sto2, ownItems, at2_0, at2_1, at3_0, at3_1, at3_2, at4_0, at4_1, at4_2, at4_3, ix_20, ix_21, ix_40, ix_41, ix_42, ix_43, List.length_map, isFzs, d2_add, d2_sub, d2_lt, d2_le, d2_gt, d2_ge, d2_eq, d2_ne, d2_eqs, d2_eqb, d2_isn_non, d2_isn_int, d2_isn_bl, d2_isn_str, d2_isn_tup, d2_isn_lst, d2_notn_non, d2_notn_int, d2_notn_bl, d2_notn_str, d2_notn_tup, d2_notn_lst, d2_mod, d2_fdiv, Int.reduceToNat, Int.reducePow, Int.reduceEq, Int.reduceLT, Int.reduceLE, Int.reduceNeg, Int.reduceMul, Int.reduceAdd, Int.reduceSub, cst0, cst1, cst2, cst3, cst4, cst5, cst6, cst7, cst8, cst9, cst10, cst11, cst12, ne_eq, not_false_eq_true, not_true_eq_false, dF_gcd, dF_lenL, dF_lenT, dF_int, dF_intb, dF_abs, dF_min, dF_max, dI_ii, dI_ib, dI_is, dI_il, dI_it, dI_bi, dI_bb, dI_bs, dI_bl, dI_bt, dI_si, dI_sb, dI_ss, dI_sl, dI_st, dI_li, dI_lb, dI_ls, dI_ll, dI_lt, dI_ti, dI_tb, dI_ts, dI_tl, dI_tt, dI_ni, dI_nb, dI_ns, dI_nl, dI_nt, Option.map_some, List.length_cons, List.length_nil, List.getElem?_cons_zero, List.getElem?_cons_succ, List.getElem?_nil, List.set_cons_zero, List.set_cons_succ, List.set_nil, List.map_cons, List.map_nil, List.cons_append, List.nil_append, List.append_nil, List.replicate, List.getD_cons_zero, List.getD_cons_succ, List.contains_nil, List.contains_cons, Nat.reduceBEq, Bool.or_false, Bool.false_or, Bool.or_self, Bool.or_true, Bool.true_or, List.isEmpty_nil, List.isEmpty_cons, decide_true, decide_false, if_true, if_false, Bool.false_eq_true, Bool.not_true, Bool.not_false, Bool.and_true, Bool.true_and, Bool.and_self, Bool.and_false, Bool.false_and, reduceIte, Nat.zero_add, Nat.reduceAdd, Nat.reduceSub, Nat.reduceLT, Nat.reduceLeDiff, Nat.reduceEqDiff, decide_eq_true_eq, eq_self, Option.some.injEq, reduceCtorEq, Nat.lt_irrefl]
  rw [evSs_cons]; simp -implicitDefEqProofs only [evS, evT, evE, evP, evPs, evV, evA, evAnd, evOr, evI, Pv.a0, Pv.a1, Pv.v0, Pv.v1, opd, slotOf, satOp, Pv.two, Pv.one, ob_s, ob_n, sc_int, sc_bl, sc_str, sc_non, bd_ok, bd_exc, thenE_ok, thenE_exc, thenT_ok, thenT_exc, thenA_ok, thenI_ok, fl_nx, fl_ret, fl_exc, fl_bk, fl_ct, fl_nil, evSs_nil, asBl, asInt, un_non, un_bl, un_int, un_str, un_tup, un_lst, un_obj, un_un, fz, fzs, isSc, isScs, isFz, isFzs, isOwn, isOwns, dNeg, dT, tgA, setAll, okS, res, at2, it_tup, it_lst, chnD, lItems, tmps, cpyLoc, cpyTmp, ixTmp, ioPos, outFl, outsOf, fzs_ints, Pv.sto1, Pv.sto2, ownItems, at2_0, at2_1, at3_0, at3_1, at3_2, at4_0, at4_1, at4_2, at4_3, ix_20, ix_21, ix_40, ix_41, ix_42, ix_43, List.length_map, isFzs, d2_add, d2_sub, d2_lt, d2_le, d2_gt, d2_ge, d2_eq, d2_ne, d2_eqs, d2_eqb, d2_isn_non, d2_isn_int, d2_isn_bl, d2_isn_str, d2_isn_tup, d2_isn_lst, d2_notn_non, d2_notn_int, d2_notn_bl, d2_notn_str, d2_notn_tup, d2_notn_lst, d2_mod, d2_fdiv, Int.reduceToNat, Int.reducePow, Int.reduceEq, Int.reduceLT, Int.reduceLE, Int.reduceNeg, Int.reduceMul, Int.reduceAdd, Int.reduceSub, cst0, cst1, cst2, cst3, cst4, cst5, cst6, cst7, cst8, cst9, cst10, cst11, cst12, ne_eq, not_false_eq_true, not_true_eq_false, dF_gcd, dF_lenL, dF_lenT, dF_int, dF_intb, dF_abs, dF_min, dF_max, dI_ii, dI_ib, dI_is, dI_il, dI_it, dI_bi, dI_bb, dI_bs, dI_bl, dI_bt, dI_si, dI_sb, dI_ss, dI_sl, dI_st, dI_li, dI_lb, dI_ls, dI_ll, dI_lt, dI_ti, dI_tb, dI_ts, dI_tl, dI_tt, dI_ni, dI_nb, dI_ns, dI_nl, dI_nt, Option.map_some, List.length_cons, List.length_nil, List.getElem?_cons_zero, List.getElem?_cons_succ, List.getElem?_nil, List.set_cons_zero, List.set_cons_succ, List.set_nil, List.map_cons, List.map_nil, List.cons_append, List.nil_append, List.append_nil, List.replicate, List.getD_cons_zero, List.getD_cons_succ, List.contains_nil, List.contains_cons, Nat.reduceBEq, Bool.or_false, Bool.false_or, Bool.or_self, Bool.or_true, Bool.true_or, List.isEmpty_nil, List.isEmpty_cons, decide_true, decide_false, if_true, if_false, Bool.false_eq_true, Bool.not_true, Bool.not_false, Bool.and_true, Bool.true_and, Bool.and_self, Bool.and_false, Bool.false_and, reduceIte, Nat.zero_add, Nat.reduceAdd, Nat.reduceSub, Nat.reduceLT, Nat.reduceLeDiff, Nat.reduceEqDiff, decide_eq_true_eq, eq_self, Option.some.injEq, reduceCtorEq, Nat.lt_irrefl]
  rw [evSs_cons]; simp -implicitDefEqProofs only [evS, evT, evE, evP, evPs, evV, evA, evAnd, evOr, evI, Pv.a0, Pv.a1, Pv.v0, Pv.v1, opd, slotOf, satOp, Pv.two, Pv.one, ob_s, ob_n, sc_int, sc_bl, sc_str, sc_non, bd_ok, bd_exc, thenE_ok, thenE_exc, thenT_ok, thenT_exc, thenA_ok, thenI_ok, fl_nx, fl_ret, fl_exc, fl_bk, fl_ct, fl_nil, evSs_nil, asBl, asInt, un_non, un_bl, un_int, un_str, un_tup, un_lst, un_obj, un_un, fz, fzs, isSc, isScs, isFz, isFzs, isOwn, isOwns, dNeg, dT, tgA, setAll, okS, res, at2, it_tup, it_lst, chnD, lItems, tmps, cpyLoc, cpyTmp, ixTmp, ioPos, outFl, outsOf, fzs_ints, Pv.sto1, Pv.sto2, ownItems, at2_0, at2_1, at3_0, at3_1, at3_2, at4_0, at4_1, at4_2, at4_3, ix_20, ix_21, ix_40, ix_41, ix_42, ix_43, List.length_map, isFzs, d2_add, d2_sub, d2_lt, d2_le, d2_gt, d2_ge, d2_eq, d2_ne, d2_eqs, d2_eqb, d2_isn_non, d2_isn_int, d2_isn_bl, d2_isn_str, d2_isn_tup, d2_isn_lst, d2_notn_non, d2_notn_int, d2_notn_bl, d2_notn_str, d2_notn_tup, d2_notn_lst, d2_mod, d2_fdiv, Int.reduceToNat, Int.reducePow, Int.reduceEq, Int.reduceLT, Int.reduceLE, Int.reduceNeg, Int.reduceMul, Int.reduceAdd, Int.reduceSub, cst0, cst1, cst2, cst3, cst4, cst5, cst6, cst7, cst8, cst9, cst10, cst11, cst12, ne_eq, not_false_eq_true, not_true_eq_false, dF_gcd, dF_lenL, dF_lenT, dF_int, dF_intb, dF_abs, dF_min, dF_max, dI_ii, dI_ib, dI_is, dI_il, dI_it, dI_bi, dI_bb, dI_bs, dI_bl, dI_bt, dI_si, dI_sb, dI_ss, dI_sl, dI_st, dI_li, dI_lb, dI_ls, dI_ll, dI_lt, dI_ti, dI_tb, dI_ts, dI_tl, dI_tt, dI_ni, dI_nb, dI_ns, dI_nl, dI_nt, Option.map_some, List.length_cons, List.length_nil, List.getElem?_cons_zero, List.getElem?_cons_succ, List.getElem?_nil, List.set_cons_zero, List.set_cons_succ, List.set_nil, List.map_cons, List.map_nil, List.cons_append, List.nil_append, List.append_nil, List.replicate, List.getD_cons_zero, List.getD_cons_succ, List.contains_nil, List.contains_cons, Nat.reduceBEq, Bool.or_false, Bool.false_or, Bool.or_self, Bool.or_true, Bool.true_or, List.isEmpty_nil, List.isEmpty_cons, decide_true, decide_false, if_true, if_false, Bool.false_eq_true, Bool.not_true, Bool.not_false, Bool.and_true, Bool.true_and, Bool.and_self, Bool.and_false, Bool.false_and, reduceIte, Nat.zero_add, Nat.reduceAdd, Nat.reduceSub, Nat.reduceLT, Nat.reduceLeDiff, Nat.reduceEqDiff, decide_eq_true_eq, eq_self, Option.some.injEq, reduceCtorEq, Nat.lt_irrefl, eb, t0, el]
  rw [evSs_cons]; simp -implicitDefEqProofs only [evS, evT, evE, evP, evPs, evV, evA, evAnd, evOr, evI, Pv.a0, Pv.a1, Pv.v0, Pv.v1, opd, slotOf, satOp, Pv.two, Pv.one, ob_s, ob_n, sc_int, sc_bl, sc_str, sc_non, bd_ok, bd_exc, thenE_ok, thenE_exc, thenT_ok, thenT_exc, thenA_ok, thenI_ok, fl_nx, fl_ret, fl_exc, fl_bk, fl_ct, fl_nil, evSs_nil, asBl, asInt, un_non, un_bl, un_int, un_str, un_tup, un_lst, un_obj, un_un, fz, fzs, isSc, isScs, isFz, isFzs, isOwn, isOwns, dNeg, dT, tgA, setAll, okS, res, at2, it_tup, it_lst, chnD, lItems, tmps, cpyLoc, cpyTmp, ixTmp, ioPos, outFl, outsOf, fzs_ints, Pv.sto1, Pv.sto2, ownItems, at2_0, at2_1, at3_0, at3_1, at3_2, at4_0, at4_1, at4_2, at4_3, ix_20, ix_21, ix_40, ix_41, ix_42, ix_43, List.length_map, isFzs, d2_add, d2_sub, d2_lt, d2_le, d2_gt, d2_ge, d2_eq, d2_ne, d2_eqs, d2_eqb, d2_isn_non, d2_isn_int, d2_isn_bl, d2_isn_str, d2_isn_tup, d2_isn_lst, d2_notn_non, d2_notn_int, d2_notn_bl, d2_notn_str, d2_notn_tup, d2_notn_lst, d2_mod, d2_fdiv, Int.reduceToNat, Int.reducePow, Int.reduceEq, Int.reduceLT, Int.reduceLE, Int.reduceNeg, Int.reduceMul, Int.reduceAdd, Int.reduceSub, cst0, cst1, cst2, cst3, cst4, cst5, cst6, cst7, cst8, cst9, cst10, cst11, cst12, ne_eq, not_false_eq_true, not_true_eq_false, dF_gcd, dF_lenL, dF_lenT, dF_int, dF_intb, dF_abs, dF_min, dF_max, dI_ii, dI_ib, dI_is, dI_il, dI_it, dI_bi, dI_bb, dI_bs, dI_bl, dI_bt, dI_si, dI_sb, dI_ss, dI_sl, dI_st, dI_li, dI_lb, dI_ls, dI_ll, dI_lt, dI_ti, dI_tb, dI_ts, dI_tl, dI_tt, dI_ni, dI_nb, dI_ns, dI_nl, dI_nt, Option.map_some, List.length_cons, List.length_nil, List.getElem?_cons_zero, List.getElem?_cons_succ, List.getElem?_nil, List.set_cons_zero, List.set_cons_succ, List.set_nil, List.map_cons, List.map_nil, List.cons_append, List.nil_append, List.append_nil, List.replicate, List.getD_cons_zero, List.getD_cons_succ, List.contains_nil, List.contains_cons, Nat.reduceBEq, Bool.or_false, Bool.false_or, Bool.or_self, Bool.or_true, Bool.true_or, List.isEmpty_nil, List.isEmpty_cons, decide_true, decide_false, if_true, if_false, Bool.false_eq_true, Bool.not_true, Bool.not_false, Bool.and_true, Bool.true_and, Bool.and_self, Bool.and_false, Bool.false_and, reduceIte, Nat.zero_add, Nat.reduceAdd, Nat.reduceSub, Nat.reduceLT, Nat.reduceLeDiff, Nat.reduceEqDiff, decide_eq_true_eq, eq_self, Option.some.injEq, reduceCtorEq, Nat.lt_irrefl, c1, c2, c3]
  rw [evSs_cons]; simp -implicitDefEqProofs only [evS, evT, evE, evP, evPs, evV, evA, evAnd, evOr, evI, Pv.a0, Pv.a1, Pv.v0, Pv.v1, opd, slotOf, satOp, Pv.two, Pv.one, ob_s, ob_n, sc_int, sc_bl, sc_str, sc_non, bd_ok, bd_exc, thenE_ok, thenE_exc, thenT_ok, thenT_exc, thenA_ok, thenI_ok, fl_nx, fl_ret, fl_exc, fl_bk, fl_ct, fl_nil, evSs_nil, asBl, asInt, un_non, un_bl, un_int, un_str, un_tup, un_lst, un_obj, un_un, fz, fzs, isSc, isScs, isFz, isFzs, isOwn, isOwns, dNeg, dT, tgA, setAll, okS, res, at2, it_tup, it_lst, chnD, lItems, tmps, cpyLoc, cpyTmp, ixTmp, ioPos, outFl, outsOf, fzs_ints, Pv.sto1, Pv.sto2, ownItems, at2_0, at2_1, at3_0, at3_1, at3_2, at4_0, at4_1, at4_2, at4_3, ix_20, ix_21, ix_40, ix_41, ix_42, ix_43, List.length_map, isFzs, d2_add, d2_sub, d2_lt, d2_le, d2_gt, d2_ge, d2_eq, d2_ne, d2_eqs, d2_eqb, d2_isn_non, d2_isn_int, d2_isn_bl, d2_isn_str, d2_isn_tup, d2_isn_lst, d2_notn_non, d2_notn_int, d2_notn_bl, d2_notn_str, d2_notn_tup, d2_notn_lst, d2_mod, d2_fdiv, Int.reduceToNat, Int.reducePow, Int.reduceEq, Int.reduceLT, Int.reduceLE, Int.reduceNeg, Int.reduceMul, Int.reduceAdd, Int.reduceSub, cst0, cst1, cst2, cst3, cst4, cst5, cst6, cst7, cst8, cst9, cst10, cst11, cst12, ne_eq, not_false_eq_true, not_true_eq_false, dF_gcd, dF_lenL, dF_lenT, dF_int, dF_intb, dF_abs, dF_min, dF_max, dI_ii, dI_ib, dI_is, dI_il, dI_it, dI_bi, dI_bb, dI_bs, dI_bl, dI_bt, dI_si, dI_sb, dI_ss, dI_sl, dI_st, dI_li, dI_lb, dI_ls, dI_ll, dI_lt, dI_ti, dI_tb, dI_ts, dI_tl, dI_tt, dI_ni, dI_nb, dI_ns, dI_nl, dI_nt, Option.map_some, List.length_cons, List.length_nil, List.getElem?_cons_zero, List.getElem?_cons_succ, List.getElem?_nil, List.set_cons_zero, List.set_cons_succ, List.set_nil, List.map_cons, List.map_nil, List.cons_append, List.nil_append, List.append_nil, List.replicate, List.getD_cons_zero, List.getD_cons_succ, List.contains_nil, List.contains_cons, Nat.reduceBEq, Bool.or_false, Bool.false_or, Bool.or_self, Bool.or_true, Bool.true_or, List.isEmpty_nil, List.isEmpty_cons, decide_true, decide_false, if_true, if_false, Bool.false_eq_true, Bool.not_true, Bool.not_false, Bool.and_true, Bool.true_and, Bool.and_self, Bool.and_false, Bool.false_and, reduceIte, Nat.zero_add, Nat.reduceAdd, Nat.reduceSub, Nat.reduceLT, Nat.reduceLeDiff, Nat.reduceEqDiff, decide_eq_true_eq, eq_self, Option.some.injEq, reduceCtorEq, Nat.lt_irrefl, d2_pow pw, h.un, e1]
  rw [evSs_cons]; simp -implicitDefEqProofs only [evS, evT, evE, evP, evPs, evV, evA, evAnd, evOr, evI, Pv.a0, Pv.a1, Pv.v0, Pv.v1, opd, slotOf, satOp, Pv.two, Pv.one, ob_s, ob_n, sc_int, sc_bl, sc_str, sc_non, bd_ok, bd_exc, thenE_ok, thenE_exc, thenT_ok, thenT_exc, thenA_ok, thenI_ok, fl_nx, fl_ret, fl_exc, fl_bk, fl_ct, fl_nil, evSs_nil, asBl, asInt, un_non, un_bl, un_int, un_str, un_tup, un_lst, un_obj, un_un, fz, fzs, isSc, isScs, isFz, isFzs, isOwn, isOwns, dNeg, dT, tgA, setAll, okS, res, at2, it_tup, it_lst, chnD, lItems, tmps, cpyLoc, cpyTmp, ixTmp, ioPos, outFl, outsOf, fzs_ints, Pv.sto1, Pv.sto2, ownItems, at2_0, at2_1, at3_0, at3_1, at3_2, at4_0, at4_1, at4_2, at4_3, ix_20, ix_21, ix_40, ix_41, ix_42, ix_43, List.length_map, isFzs, d2_add, d2_sub, d2_lt, d2_le, d2_gt, d2_ge, d2_eq, d2_ne, d2_eqs, d2_eqb, d2_isn_non, d2_isn_int, d2_isn_bl, d2_isn_str, d2_isn_tup, d2_isn_lst, d2_notn_non, d2_notn_int, d2_notn_bl, d2_notn_str, d2_notn_tup, d2_notn_lst, d2_mod, d2_fdiv, Int.reduceToNat, Int.reducePow, Int.reduceEq, Int.reduceLT, Int.reduceLE, Int.reduceNeg, Int.reduceMul, Int.reduceAdd, Int.reduceSub, cst0, cst1, cst2, cst3, cst4, cst5, cst6, cst7, cst8, cst9, cst10, cst11, cst12, ne_eq, not_false_eq_true, not_true_eq_false, dF_gcd, dF_lenL, dF_lenT, dF_int, dF_intb, dF_abs, dF_min, dF_max, dI_ii, dI_ib, dI_is, dI_il, dI_it, dI_bi, dI_bb, dI_bs, dI_bl, dI_bt, dI_si, dI_sb, dI_ss, dI_sl, dI_st, dI_li, dI_lb, dI_ls, dI_ll, dI_lt, dI_ti, dI_tb, dI_ts, dI_tl, dI_tt, dI_ni, dI_nb, dI_ns, dI_nl, dI_nt, Option.map_some, List.length_cons, List.length_nil, List.getElem?_cons_zero, List.getElem?_cons_succ, List.getElem?_nil, List.set_cons_zero, List.set_cons_succ, List.set_nil, List.map_cons, List.map_nil, List.cons_append, List.nil_append, List.append_nil, List.replicate, List.getD_cons_zero, List.getD_cons_succ, List.contains_nil, List.contains_cons, Nat.reduceBEq, Bool.or_false, Bool.false_or, Bool.or_self, Bool.or_true, Bool.true_or, List.isEmpty_nil, List.isEmpty_cons, decide_true, decide_false, if_true, if_false, Bool.false_eq_true, Bool.not_true, Bool.not_false, Bool.and_true, Bool.true_and, Bool.and_self, Bool.and_false, Bool.false_and, reduceIte, Nat.zero_add, Nat.reduceAdd, Nat.reduceSub, Nat.reduceLT, Nat.reduceLeDiff, Nat.reduceEqDiff, decide_eq_true_eq, eq_self, Option.some.injEq, reduceCtorEq, Nat.lt_irrefl, c4]
  rw [evSs_cons]; simp -implicitDefEqProofs only [evS, evT, evE, evP, evPs, evV, evA, evAnd, evOr, evI, Pv.a0, Pv.a1, Pv.v0, Pv.v1, opd, slotOf, satOp, Pv.two, Pv.one, ob_s, ob_n, sc_int, sc_bl, sc_str, sc_non, bd_ok, bd_exc, thenE_ok, thenE_exc, thenT_ok, thenT_exc, thenA_ok, thenI_ok, fl_nx, fl_ret, fl_exc, fl_bk, fl_ct, fl_nil, evSs_nil, asBl, asInt, un_non, un_bl, un_int, un_str, un_tup, un_lst, un_obj, un_un, fz, fzs, isSc, isScs, isFz, isFzs, isOwn, isOwns, dNeg, dT, tgA, setAll, okS, res, at2, it_tup, it_lst, chnD, lItems, tmps, cpyLoc, cpyTmp, ixTmp, ioPos, outFl, outsOf, fzs_ints, Pv.sto1, Pv.sto2, ownItems, at2_0, at2_1, at3_0, at3_1, at3_2, at4_0, at4_1, at4_2, at4_3, ix_20, ix_21, ix_40, ix_41, ix_42, ix_43, List.length_map, isFzs, d2_add, d2_sub, d2_lt, d2_le, d2_gt, d2_ge, d2_eq, d2_ne, d2_eqs, d2_eqb, d2_isn_non, d2_isn_int, d2_isn_bl, d2_isn_str, d2_isn_tup, d2_isn_lst, d2_notn_non, d2_notn_int, d2_notn_bl, d2_notn_str, d2_notn_tup, d2_notn_lst, d2_mod, d2_fdiv, Int.reduceToNat, Int.reducePow, Int.reduceEq, Int.reduceLT, Int.reduceLE, Int.reduceNeg, Int.reduceMul, Int.reduceAdd, Int.reduceSub, cst0, cst1, cst2, cst3, cst4, cst5, cst6, cst7, cst8, cst9, cst10, cst11, cst12, ne_eq, not_false_eq_true, not_true_eq_false, dF_gcd, dF_lenL, dF_lenT, dF_int, dF_intb, dF_abs, dF_min, dF_max, dI_ii, dI_ib, dI_is, dI_il, dI_it, dI_bi, dI_bb, dI_bs, dI_bl, dI_bt, dI_si, dI_sb, dI_ss, dI_sl, dI_st, dI_li, dI_lb, dI_ls, dI_ll, dI_lt, dI_ti, dI_tb, dI_ts, dI_tl, dI_tt, dI_ni, dI_nb, dI_ns, dI_nl, dI_nt, Option.map_some, List.length_cons, List.length_nil, List.getElem?_cons_zero, List.getElem?_cons_succ, List.getElem?_nil, List.set_cons_zero, List.set_cons_succ, List.set_nil, List.map_cons, List.map_nil, List.cons_append, List.nil_append, List.append_nil, List.replicate, List.getD_cons_zero, List.getD_cons_succ, List.contains_nil, List.contains_cons, Nat.reduceBEq, Bool.or_false, Bool.false_or, Bool.or_self, Bool.or_true, Bool.true_or, List.isEmpty_nil, List.isEmpty_cons, decide_true, decide_false, if_true, if_false, Bool.false_eq_true, Bool.not_true, Bool.not_false, Bool.and_true, Bool.true_and, Bool.and_self, Bool.and_false, Bool.false_and, reduceIte, Nat.zero_add, Nat.reduceAdd, Nat.reduceSub, Nat.reduceLT, Nat.reduceLeDiff, Nat.reduceEqDiff, decide_eq_true_eq, eq_self, Option.some.injEq, reduceCtorEq, Nat.lt_irrefl, c5]
  rw [evSs_cons]; simp -implicitDefEqProofs only [evS, evT, evE, evP, evPs, evV, evA, evAnd, evOr, evI, Pv.a0, Pv.a1, Pv.v0, Pv.v1, opd, slotOf, satOp, Pv.two, Pv.one, ob_s, ob_n, sc_int, sc_bl, sc_str, sc_non, bd_ok, bd_exc, thenE_ok, thenE_exc, thenT_ok, thenT_exc, thenA_ok, thenI_ok, fl_nx, fl_ret, fl_exc, fl_bk, fl_ct, fl_nil, evSs_nil, asBl, asInt, un_non, un_bl, un_int, un_str, un_tup, un_lst, un_obj, un_un, fz, fzs, isSc, isScs, isFz, isFzs, isOwn, isOwns, dNeg, dT, tgA, setAll, okS, res, at2, it_tup, it_lst, chnD, lItems, tmps, cpyLoc, cpyTmp, ixTmp, ioPos, outFl, outsOf, fzs_ints, Pv.sto1, Pv.sto2, ownItems, at2_0, at2_1, at3_0, at3_1, at3_2, at4_0, at4_1, at4_2, at4_3, ix_20, ix_21, ix_40, ix_41, ix_42, ix_43, List.length_map, isFzs, d2_add, d2_sub, d2_lt, d2_le, d2_gt, d2_ge, d2_eq, d2_ne, d2_eqs, d2_eqb, d2_isn_non, d2_isn_int, d2_isn_bl, d2_isn_str, d2_isn_tup, d2_isn_lst, d2_notn_non, d2_notn_int, d2_notn_bl, d2_notn_str, d2_notn_tup, d2_notn_lst, d2_mod, d2_fdiv, Int.reduceToNat, Int.reducePow, Int.reduceEq, Int.reduceLT, Int.reduceLE, Int.reduceNeg, Int.reduceMul, Int.reduceAdd, Int.reduceSub, cst0, cst1, cst2, cst3, cst4, cst5, cst6, cst7, cst8, cst9, cst10, cst11, cst12, ne_eq, not_false_eq_true, not_true_eq_false, dF_gcd, dF_lenL, dF_lenT, dF_int, dF_intb, dF_abs, dF_min, dF_max, dI_ii, dI_ib, dI_is, dI_il, dI_it, dI_bi, dI_bb, dI_bs, dI_bl, dI_bt, dI_si, dI_sb, dI_ss, dI_sl, dI_st, dI_li, dI_lb, dI_ls, dI_ll, dI_lt, dI_ti, dI_tb, dI_ts, dI_tl, dI_tt, dI_ni, dI_nb, dI_ns, dI_nl, dI_nt, Option.map_some, List.length_cons, List.length_nil, List.getElem?_cons_zero, List.getElem?_cons_succ, List.getElem?_nil, List.set_cons_zero, List.set_cons_succ, List.set_nil, List.map_cons, List.map_nil, List.cons_append, List.nil_append, List.append_nil, List.replicate, List.getD_cons_zero, List.getD_cons_succ, List.contains_nil, List.contains_cons, Nat.reduceBEq, Bool.or_false, Bool.false_or, Bool.or_self, Bool.or_true, Bool.true_or, List.isEmpty_nil, List.isEmpty_cons, decide_true, decide_false, if_true, if_false, Bool.false_eq_true, Bool.not_true, Bool.not_false, Bool.and_true, Bool.true_and, Bool.and_self, Bool.and_false, Bool.false_and, reduceIte, Nat.zero_add, Nat.reduceAdd, Nat.reduceSub, Nat.reduceLT, Nat.reduceLeDiff, Nat.reduceEqDiff, decide_eq_true_eq, eq_self, Option.some.injEq, reduceCtorEq, Nat.lt_irrefl, c6]
  rw [evSs_cons]; simp -implicitDefEqProofs only [evS, evT, evE, evP, evPs, evV, evA, evAnd, evOr, evI, Pv.a0, Pv.a1, Pv.v0, Pv.v1, opd, slotOf, satOp, Pv.two, Pv.one, ob_s, ob_n, sc_int, sc_bl, sc_str, sc_non, bd_ok, bd_exc, thenE_ok, thenE_exc, thenT_ok, thenT_exc, thenA_ok, thenI_ok, fl_nx, fl_ret, fl_exc, fl_bk, fl_ct, fl_nil, evSs_nil, asBl, asInt, un_non, un_bl, un_int, un_str, un_tup, un_lst, un_obj, un_un, fz, fzs, isSc, isScs, isFz, isFzs, isOwn, isOwns, dNeg, dT, tgA, setAll, okS, res, at2, it_tup, it_lst, chnD, lItems, tmps, cpyLoc, cpyTmp, ixTmp, ioPos, outFl, outsOf, fzs_ints, Pv.sto1, Pv.sto2, ownItems, at2_0, at2_1, at3_0, at3_1, at3_2, at4_0, at4_1, at4_2, at4_3, ix_20, ix_21, ix_40, ix_41, ix_42, ix_43, List.length_map, isFzs, d2_add, d2_sub, d2_lt, d2_le, d2_gt, d2_ge, d2_eq, d2_ne, d2_eqs, d2_eqb, d2_isn_non, d2_isn_int, d2_isn_bl, d2_isn_str, d2_isn_tup, d2_isn_lst, d2_notn_non, d2_notn_int, d2_notn_bl, d2_notn_str, d2_notn_tup, d2_notn_lst, d2_mod, d2_fdiv, Int.reduceToNat, Int.reducePow, Int.reduceEq, Int.reduceLT, Int.reduceLE, Int.reduceNeg, Int.reduceMul, Int.reduceAdd, Int.reduceSub, cst0, cst1, cst2, cst3, cst4, cst5, cst6, cst7, cst8, cst9, cst10, cst11, cst12, ne_eq, not_false_eq_true, not_true_eq_false, dF_gcd, dF_lenL, dF_lenT, dF_int, dF_intb, dF_abs, dF_min, dF_max, dI_ii, dI_ib, dI_is, dI_il, dI_it, dI_bi, dI_bb, dI_bs, dI_bl, dI_bt, dI_si, dI_sb, dI_ss, dI_sl, dI_st, dI_li, dI_lb, dI_ls, dI_ll, dI_lt, dI_ti, dI_tb, dI_ts, dI_tl, dI_tt, dI_ni, dI_nb, dI_ns, dI_nl, dI_nt, Option.map_some, List.length_cons, List.length_nil, List.getElem?_cons_zero, List.getElem?_cons_succ, List.getElem?_nil, List.set_cons_zero, List.set_cons_succ, List.set_nil, List.map_cons, List.map_nil, List.cons_append, List.nil_append, List.append_nil, List.replicate, List.getD_cons_zero, List.getD_cons_succ, List.contains_nil, List.contains_cons, Nat.reduceBEq, Bool.or_false, Bool.false_or, Bool.or_self, Bool.or_true, Bool.true_or, List.isEmpty_nil, List.isEmpty_cons, decide_true, decide_false, if_true, if_false, Bool.false_eq_true, Bool.not_true, Bool.not_false, Bool.and_true, Bool.true_and, Bool.and_self, Bool.and_false, Bool.false_and, reduceIte, Nat.zero_add, Nat.reduceAdd, Nat.reduceSub, Nat.reduceLT, Nat.reduceLeDiff, Nat.reduceEqDiff, decide_eq_true_eq, eq_self, Option.some.injEq, reduceCtorEq, Nat.lt_irrefl, c7, c8, c9]
theorem two_st {a b : S} {r : Ss} {rs rs' : List D} (h : ob (evS 0 [] a rs) (fun fl => Fl.bd (some fl) (evS 0 [] b)) = some (.nx rs')) : evSs 0 [] (.cons a (.cons b r)) rs = evSs 0 [] r rs' := by
  rw [evSs_cons]
  cases e : evS 0 [] a rs with
  | none => rw [e] at h; cases h
  | some fl =>
    rw [e, ob_s] at h
    cases fl with
    | nx rs1 =>
      rw [fl_nx] at h ⊢
      rw [evSs_cons, h, fl_nx]
    | _ => cases h
theorem law_refused (sc st X Y t bo k f to sp : D) {r s n : D} {b c : Bool} {q : Int} (hr : RP b (-25) 1 r) (hs : StaP (!decide (q = 0)) s) (hn : RP c 0 cFar n) (hd : ¬ (b = true ∧ q ≠ 0 ∧ c = true)) : ∃ rs, evSs 0 [] (tl 13 b_law) [sc, st, X, r, s, .int q, Y, n, (dueD b q c), t, bo, k, f, to, sp] = some (.ret (.bl true) rs) := by
  have hD : askD (facR r s n) = dueD b q c := by
    unfold facR dueD
    rw [hr.2, hs.2.1, hn.2]
    cases b with
    | false => rfl
    | true =>
      by_cases h0 : q = 0
      · simp [h0]; rfl
      · cases c with
        | false => simp [h0]; rfl
        | true => exact (hd ⟨rfl, h0, rfl⟩).elim
  have hp : ∃ nm, dueD b q c = .tup [.str "refused", .str nm] := by
    unfold dueD
    split
    · exact ⟨_, rfl⟩
    split
    · exact ⟨_, rfl⟩
    split
    · exact ⟨_, rfl⟩
    · rename_i a1 a2 a3
      exact (hd ⟨by simpa using a1, a2, by simpa using a3⟩).elim
  obtain ⟨nm, hp⟩ := hp
  have e := ask_eq hr.1 hs.1 hn.1 hs.2.2
  rw [hD, hp] at e
  have ur := ask1_un hr.1
  have us := ask1_un hs.1
  have un := ask1_un hn.1
  have zr := ask1_fz hr.1
  have zs := ask1_fz hs.1
  have zn := ask1_fz hn.1
  have c1 : callD F_L_asked [.loc 3, .loc 4, .loc 7] [sc, st, X, r, s, .int q, Y, n, .tup [.str "refused", .str nm], t, bo, k, f, to, sp] = some (.ok (.tup [.str "refused", .str nm]) [sc, st, X, r, s, .int q, Y, n, .tup [.str "refused", .str nm], t, bo, k, f, to, sp]) := call_v3 (by
    rw [res_loc rfl, res_loc rfl, res_loc rfl, zr, zs, zn]
    exact e) rfl
  have c2 : ∀ rs, rs[8]? = some (.tup [.str "refused", .str nm]) → callD (F_L_same 8) [.tmp (.tup [.str "refused", .str nm]), .loc 8] rs = some (.ok (.bl true) rs) := fun rs a => call_v2 (by
    rw [res_loc a]
    exact same_of (k := 8) (d := .tup [.str "refused", .str nm]) rfl) rfl
  refine ⟨[sc, st, X, r, s, .int q, Y, n, .tup [.str "refused", .str nm], t, bo, k, f, to, sp], ?_⟩
  rw [hp]
  unfold b_law
  simp only [tl]
  rw [evSs_cons]; simp -implicitDefEqProofs only [evS, evT, evE, evP, evPs, evV, evA, evAnd, evOr, evI, Pv.a0, Pv.a1, Pv.v0, Pv.v1, opd, slotOf, satOp, Pv.two, Pv.one, ob_s, ob_n, sc_int, sc_bl, sc_str, sc_non, bd_ok, bd_exc, thenE_ok, thenE_exc, thenT_ok, thenT_exc, thenA_ok, thenI_ok, fl_nx, fl_ret, fl_exc, fl_bk, fl_ct, fl_nil, evSs_nil, asBl, asInt, un_non, un_bl, un_int, un_str, un_tup, un_lst, un_obj, un_un, fz, fzs, isSc, isScs, isFz, isFzs, isOwn, isOwns, dNeg, dT, tgA, setAll, okS, res, at2, it_tup, it_lst, chnD, lItems, tmps, cpyLoc, cpyTmp, ixTmp, ioPos, outFl, outsOf, fzs_ints, Pv.sto1, Pv.sto2, ownItems, at2_0, at2_1, at3_0, at3_1, at3_2, at4_0, at4_1, at4_2, at4_3, ix_20, ix_21, ix_40, ix_41, ix_42, ix_43, List.length_map, isFzs, d2_add, d2_sub, d2_lt, d2_le, d2_gt, d2_ge, d2_eq, d2_ne, d2_eqs, d2_eqb, d2_isn_non, d2_isn_int, d2_isn_bl, d2_isn_str, d2_isn_tup, d2_isn_lst, d2_notn_non, d2_notn_int, d2_notn_bl, d2_notn_str, d2_notn_tup, d2_notn_lst, d2_mod, d2_fdiv, Int.reduceToNat, Int.reducePow, Int.reduceEq, Int.reduceLT, Int.reduceLE, Int.reduceNeg, Int.reduceMul, Int.reduceAdd, Int.reduceSub, cst0, cst1, cst2, cst3, cst4, cst5, cst6, cst7, cst8, cst9, cst10, cst11, cst12, ne_eq, not_false_eq_true, not_true_eq_false, dF_gcd, dF_lenL, dF_lenT, dF_int, dF_intb, dF_abs, dF_min, dF_max, dI_ii, dI_ib, dI_is, dI_il, dI_it, dI_bi, dI_bb, dI_bs, dI_bl, dI_bt, dI_si, dI_sb, dI_ss, dI_sl, dI_st, dI_li, dI_lb, dI_ls, dI_ll, dI_lt, dI_ti, dI_tb, dI_ts, dI_tl, dI_tt, dI_ni, dI_nb, dI_ns, dI_nl, dI_nt, Option.map_some, List.length_cons, List.length_nil, List.getElem?_cons_zero, List.getElem?_cons_succ, List.getElem?_nil, List.set_cons_zero, List.set_cons_succ, List.set_nil, List.map_cons, List.map_nil, List.cons_append, List.nil_append, List.append_nil, List.replicate, List.getD_cons_zero, List.getD_cons_succ, List.contains_nil, List.contains_cons, Nat.reduceBEq, Bool.or_false, Bool.false_or, Bool.or_self, Bool.or_true, Bool.true_or, List.isEmpty_nil, List.isEmpty_cons, decide_true, decide_false, if_true, if_false, Bool.false_eq_true, Bool.not_true, Bool.not_false, Bool.and_true, Bool.true_and, Bool.and_self, Bool.and_false, Bool.false_and, reduceIte, Nat.zero_add, Nat.reduceAdd, Nat.reduceSub, Nat.reduceLT, Nat.reduceLeDiff, Nat.reduceEqDiff, decide_eq_true_eq, eq_self, Option.some.injEq, reduceCtorEq, Nat.lt_irrefl, evSs_cons, ur, us, un, zr, zs, zn, c1, c2]
theorem law_all (ns : List Int) : ∃ rs, evSs 0 [] b_law ([.lst false (ns.map D.int)] ++ List.replicate 14 .un) = some (.ret (.bl true) rs) := by
  obtain ⟨st, h0, e0⟩ := start_ok (cs := ns) (rs := [.lst false (ns.map D.int), .un, .un, .un, .un, .un, .un, .un, .un, .un, .un, .un, .un, .un, .un]) (s := 0) rfl
  obtain ⟨v, b, st1, h1, i1, e1⟩ := index_call (most := 26) (rs := [.lst false (ns.map D.int), st, .un, .un, .un, .un, .un, .un, .un, .un, .un, .un, .un, .un, .un]) (s := 1) h0 (by decide) (by decide) rfl
  obtain ⟨st2, X, r, h2, hr, uX, ⟨w, rfl⟩, hri, e2⟩ := law3 (sc := .lst false (ns.map D.int)) (v := v) (b := b) .un .un .un .un .un .un .un .un .un .un .un .un h1 i1
  obtain ⟨st3, S, h3, s1, s2, e3⟩ := law5 (sc := .lst false (ns.map D.int)) (.lst true [w, .bl b]) r .un .un .un .un .un .un .un .un .un .un .un h2
  obtain ⟨st4, s, g, h4, hs, hg, e4⟩ := law7 (sc := .lst false (ns.map D.int)) (.lst true [w, .bl b]) r .un .un .un .un .un .un .un .un .un .un h3 s1 s2
  obtain ⟨v2, c, st5, h5, i2, e5⟩ := index_call (most := 40) (rs := [.lst false (ns.map D.int), st4, .lst true [w, .bl b], r, s, .int g, .un, .un, .un, .un, .un, .un, .un, .un, .un]) (s := 1) h4 (by decide) (by decide) rfl
  obtain ⟨st6, Y, n, h6, hn, ⟨z, rfl⟩, hni, e6⟩ := law10 (sc := .lst false (ns.map D.int)) (.lst true [w, .bl b]) r s (.int g) .un .un .un .un .un .un .un .un h5 i2
  have e7 := law12 (.lst false (ns.map D.int)) st6 r s n .un .un .un .un .un .un .un w z b c g
  have start : evSs 0 [] b_law ([.lst false (ns.map D.int)] ++ List.replicate 14 .un) = evSs 0 [] (tl 13 b_law) [.lst false (ns.map D.int), st6, .lst true [w, .bl b], r, s, .int g, .lst true [z, .bl c], n, dueD b g c, .un, .un, .un, .un, .un, .un] := by
    unfold nthS b_law at e2 e3 e4 e6 e7
    simp only [nthS] at e2 e3 e4 e6 e7
    unfold b_law
    simp only [tl]
    rw [evSs_cons]; simp -implicitDefEqProofs only [evS, evT, evE, evP, evPs, evV, evA, evAnd, evOr, evI, Pv.a0, Pv.a1, Pv.v0, Pv.v1, opd, slotOf, satOp, Pv.two, Pv.one, ob_s, ob_n, sc_int, sc_bl, sc_str, sc_non, bd_ok, bd_exc, thenE_ok, thenE_exc, thenT_ok, thenT_exc, thenA_ok, thenI_ok, fl_nx, fl_ret, fl_exc, fl_bk, fl_ct, fl_nil, evSs_nil, asBl, asInt, un_non, un_bl, un_int, un_str, un_tup, un_lst, un_obj, un_un, fz, fzs, isSc, isScs, isFz, isFzs, isOwn, isOwns, dNeg, dT, tgA, setAll, okS, res, at2, it_tup, it_lst, chnD, lItems, tmps, cpyLoc, cpyTmp, ixTmp, ioPos, outFl, outsOf, fzs_ints, Pv.sto1, Pv.sto2, ownItems, at2_0, at2_1, at3_0, at3_1, at3_2, at4_0, at4_1, at4_2, at4_3, ix_20, ix_21, ix_40, ix_41, ix_42, ix_43, List.length_map, isFzs, d2_add, d2_sub, d2_lt, d2_le, d2_gt, d2_ge, d2_eq, d2_ne, d2_eqs, d2_eqb, d2_isn_non, d2_isn_int, d2_isn_bl, d2_isn_str, d2_isn_tup, d2_isn_lst, d2_notn_non, d2_notn_int, d2_notn_bl, d2_notn_str, d2_notn_tup, d2_notn_lst, d2_mod, d2_fdiv, Int.reduceToNat, Int.reducePow, Int.reduceEq, Int.reduceLT, Int.reduceLE, Int.reduceNeg, Int.reduceMul, Int.reduceAdd, Int.reduceSub, cst0, cst1, cst2, cst3, cst4, cst5, cst6, cst7, cst8, cst9, cst10, cst11, cst12, ne_eq, not_false_eq_true, not_true_eq_false, dF_gcd, dF_lenL, dF_lenT, dF_int, dF_intb, dF_abs, dF_min, dF_max, dI_ii, dI_ib, dI_is, dI_il, dI_it, dI_bi, dI_bb, dI_bs, dI_bl, dI_bt, dI_si, dI_sb, dI_ss, dI_sl, dI_st, dI_li, dI_lb, dI_ls, dI_ll, dI_lt, dI_ti, dI_tb, dI_ts, dI_tl, dI_tt, dI_ni, dI_nb, dI_ns, dI_nl, dI_nt, Option.map_some, List.length_cons, List.length_nil, List.getElem?_cons_zero, List.getElem?_cons_succ, List.getElem?_nil, List.set_cons_zero, List.set_cons_succ, List.set_nil, List.map_cons, List.map_nil, List.cons_append, List.nil_append, List.append_nil, List.replicate, List.getD_cons_zero, List.getD_cons_succ, List.contains_nil, List.contains_cons, Nat.reduceBEq, Bool.or_false, Bool.false_or, Bool.or_self, Bool.or_true, Bool.true_or, List.isEmpty_nil, List.isEmpty_cons, decide_true, decide_false, if_true, if_false, Bool.false_eq_true, Bool.not_true, Bool.not_false, Bool.and_true, Bool.true_and, Bool.and_self, Bool.and_false, Bool.false_and, reduceIte, Nat.zero_add, Nat.reduceAdd, Nat.reduceSub, Nat.reduceLT, Nat.reduceLeDiff, Nat.reduceEqDiff, decide_eq_true_eq, eq_self, Option.some.injEq, reduceCtorEq, Nat.lt_irrefl, e0]
    rw [evSs_cons]; simp -implicitDefEqProofs only [evS, evT, evE, evP, evPs, evV, evA, evAnd, evOr, evI, Pv.a0, Pv.a1, Pv.v0, Pv.v1, opd, slotOf, satOp, Pv.two, Pv.one, ob_s, ob_n, sc_int, sc_bl, sc_str, sc_non, bd_ok, bd_exc, thenE_ok, thenE_exc, thenT_ok, thenT_exc, thenA_ok, thenI_ok, fl_nx, fl_ret, fl_exc, fl_bk, fl_ct, fl_nil, evSs_nil, asBl, asInt, un_non, un_bl, un_int, un_str, un_tup, un_lst, un_obj, un_un, fz, fzs, isSc, isScs, isFz, isFzs, isOwn, isOwns, dNeg, dT, tgA, setAll, okS, res, at2, it_tup, it_lst, chnD, lItems, tmps, cpyLoc, cpyTmp, ixTmp, ioPos, outFl, outsOf, fzs_ints, Pv.sto1, Pv.sto2, ownItems, at2_0, at2_1, at3_0, at3_1, at3_2, at4_0, at4_1, at4_2, at4_3, ix_20, ix_21, ix_40, ix_41, ix_42, ix_43, List.length_map, isFzs, d2_add, d2_sub, d2_lt, d2_le, d2_gt, d2_ge, d2_eq, d2_ne, d2_eqs, d2_eqb, d2_isn_non, d2_isn_int, d2_isn_bl, d2_isn_str, d2_isn_tup, d2_isn_lst, d2_notn_non, d2_notn_int, d2_notn_bl, d2_notn_str, d2_notn_tup, d2_notn_lst, d2_mod, d2_fdiv, Int.reduceToNat, Int.reducePow, Int.reduceEq, Int.reduceLT, Int.reduceLE, Int.reduceNeg, Int.reduceMul, Int.reduceAdd, Int.reduceSub, cst0, cst1, cst2, cst3, cst4, cst5, cst6, cst7, cst8, cst9, cst10, cst11, cst12, ne_eq, not_false_eq_true, not_true_eq_false, dF_gcd, dF_lenL, dF_lenT, dF_int, dF_intb, dF_abs, dF_min, dF_max, dI_ii, dI_ib, dI_is, dI_il, dI_it, dI_bi, dI_bb, dI_bs, dI_bl, dI_bt, dI_si, dI_sb, dI_ss, dI_sl, dI_st, dI_li, dI_lb, dI_ls, dI_ll, dI_lt, dI_ti, dI_tb, dI_ts, dI_tl, dI_tt, dI_ni, dI_nb, dI_ns, dI_nl, dI_nt, Option.map_some, List.length_cons, List.length_nil, List.getElem?_cons_zero, List.getElem?_cons_succ, List.getElem?_nil, List.set_cons_zero, List.set_cons_succ, List.set_nil, List.map_cons, List.map_nil, List.cons_append, List.nil_append, List.append_nil, List.replicate, List.getD_cons_zero, List.getD_cons_succ, List.contains_nil, List.contains_cons, Nat.reduceBEq, Bool.or_false, Bool.false_or, Bool.or_self, Bool.or_true, Bool.true_or, List.isEmpty_nil, List.isEmpty_cons, decide_true, decide_false, if_true, if_false, Bool.false_eq_true, Bool.not_true, Bool.not_false, Bool.and_true, Bool.true_and, Bool.and_self, Bool.and_false, Bool.false_and, reduceIte, Nat.zero_add, Nat.reduceAdd, Nat.reduceSub, Nat.reduceLT, Nat.reduceLeDiff, Nat.reduceEqDiff, decide_eq_true_eq, eq_self, Option.some.injEq, reduceCtorEq, Nat.lt_irrefl, h0.un, e1]
    rw [two_st e2, two_st e3, two_st e4]
    rw [evSs_cons]; simp -implicitDefEqProofs only [evS, evT, evE, evP, evPs, evV, evA, evAnd, evOr, evI, Pv.a0, Pv.a1, Pv.v0, Pv.v1, opd, slotOf, satOp, Pv.two, Pv.one, ob_s, ob_n, sc_int, sc_bl, sc_str, sc_non, bd_ok, bd_exc, thenE_ok, thenE_exc, thenT_ok, thenT_exc, thenA_ok, thenI_ok, fl_nx, fl_ret, fl_exc, fl_bk, fl_ct, fl_nil, evSs_nil, asBl, asInt, un_non, un_bl, un_int, un_str, un_tup, un_lst, un_obj, un_un, fz, fzs, isSc, isScs, isFz, isFzs, isOwn, isOwns, dNeg, dT, tgA, setAll, okS, res, at2, it_tup, it_lst, chnD, lItems, tmps, cpyLoc, cpyTmp, ixTmp, ioPos, outFl, outsOf, fzs_ints, Pv.sto1, Pv.sto2, ownItems, at2_0, at2_1, at3_0, at3_1, at3_2, at4_0, at4_1, at4_2, at4_3, ix_20, ix_21, ix_40, ix_41, ix_42, ix_43, List.length_map, isFzs, d2_add, d2_sub, d2_lt, d2_le, d2_gt, d2_ge, d2_eq, d2_ne, d2_eqs, d2_eqb, d2_isn_non, d2_isn_int, d2_isn_bl, d2_isn_str, d2_isn_tup, d2_isn_lst, d2_notn_non, d2_notn_int, d2_notn_bl, d2_notn_str, d2_notn_tup, d2_notn_lst, d2_mod, d2_fdiv, Int.reduceToNat, Int.reducePow, Int.reduceEq, Int.reduceLT, Int.reduceLE, Int.reduceNeg, Int.reduceMul, Int.reduceAdd, Int.reduceSub, cst0, cst1, cst2, cst3, cst4, cst5, cst6, cst7, cst8, cst9, cst10, cst11, cst12, ne_eq, not_false_eq_true, not_true_eq_false, dF_gcd, dF_lenL, dF_lenT, dF_int, dF_intb, dF_abs, dF_min, dF_max, dI_ii, dI_ib, dI_is, dI_il, dI_it, dI_bi, dI_bb, dI_bs, dI_bl, dI_bt, dI_si, dI_sb, dI_ss, dI_sl, dI_st, dI_li, dI_lb, dI_ls, dI_ll, dI_lt, dI_ti, dI_tb, dI_ts, dI_tl, dI_tt, dI_ni, dI_nb, dI_ns, dI_nl, dI_nt, Option.map_some, List.length_cons, List.length_nil, List.getElem?_cons_zero, List.getElem?_cons_succ, List.getElem?_nil, List.set_cons_zero, List.set_cons_succ, List.set_nil, List.map_cons, List.map_nil, List.cons_append, List.nil_append, List.append_nil, List.replicate, List.getD_cons_zero, List.getD_cons_succ, List.contains_nil, List.contains_cons, Nat.reduceBEq, Bool.or_false, Bool.false_or, Bool.or_self, Bool.or_true, Bool.true_or, List.isEmpty_nil, List.isEmpty_cons, decide_true, decide_false, if_true, if_false, Bool.false_eq_true, Bool.not_true, Bool.not_false, Bool.and_true, Bool.true_and, Bool.and_self, Bool.and_false, Bool.false_and, reduceIte, Nat.zero_add, Nat.reduceAdd, Nat.reduceSub, Nat.reduceLT, Nat.reduceLeDiff, Nat.reduceEqDiff, decide_eq_true_eq, eq_self, Option.some.injEq, reduceCtorEq, Nat.lt_irrefl, h4.un, e5]
    rw [two_st e6, two_st e7]
  rw [start]
  by_cases hd : b = true ∧ g ≠ 0 ∧ c = true
  · obtain ⟨rfl, hg0, rfl⟩ := hd
    obtain ⟨R, rfl⟩ := hri rfl
    obtain ⟨N, rfl, n0, n1⟩ := hni rfl
    have := hg hg0
    subst this
    have hR := hr.2
    simp only [inB, Bool.and_eq_true, decide_eq_true_eq] at hR
    obtain ⟨rs, e8⟩ := law_end (.lst false (ns.map D.int)) st6 (.lst true [w, .bl true]) (.lst true [z, .bl true]) .un .un .un .un .un .un (g := g) h6 hR s1 s2 ⟨n0, n1⟩
    refine ⟨rs, ?_⟩
    rw [← e8]
    have ed : dueD true g true = .non := by simp [dueD, hg0]
    rw [ed]
    unfold b_law
    simp only [tl]
    rw [evSs_cons]; simp -implicitDefEqProofs only [evS, evT, evE, evP, evPs, evV, evA, evAnd, evOr, evI, Pv.a0, Pv.a1, Pv.v0, Pv.v1, opd, slotOf, satOp, Pv.two, Pv.one, ob_s, ob_n, sc_int, sc_bl, sc_str, sc_non, bd_ok, bd_exc, thenE_ok, thenE_exc, thenT_ok, thenT_exc, thenA_ok, thenI_ok, fl_nx, fl_ret, fl_exc, fl_bk, fl_ct, fl_nil, evSs_nil, asBl, asInt, un_non, un_bl, un_int, un_str, un_tup, un_lst, un_obj, un_un, fz, fzs, isSc, isScs, isFz, isFzs, isOwn, isOwns, dNeg, dT, tgA, setAll, okS, res, at2, it_tup, it_lst, chnD, lItems, tmps, cpyLoc, cpyTmp, ixTmp, ioPos, outFl, outsOf, fzs_ints, Pv.sto1, Pv.sto2, ownItems, at2_0, at2_1, at3_0, at3_1, at3_2, at4_0, at4_1, at4_2, at4_3, ix_20, ix_21, ix_40, ix_41, ix_42, ix_43, List.length_map, isFzs, d2_add, d2_sub, d2_lt, d2_le, d2_gt, d2_ge, d2_eq, d2_ne, d2_eqs, d2_eqb, d2_isn_non, d2_isn_int, d2_isn_bl, d2_isn_str, d2_isn_tup, d2_isn_lst, d2_notn_non, d2_notn_int, d2_notn_bl, d2_notn_str, d2_notn_tup, d2_notn_lst, d2_mod, d2_fdiv, Int.reduceToNat, Int.reducePow, Int.reduceEq, Int.reduceLT, Int.reduceLE, Int.reduceNeg, Int.reduceMul, Int.reduceAdd, Int.reduceSub, cst0, cst1, cst2, cst3, cst4, cst5, cst6, cst7, cst8, cst9, cst10, cst11, cst12, ne_eq, not_false_eq_true, not_true_eq_false, dF_gcd, dF_lenL, dF_lenT, dF_int, dF_intb, dF_abs, dF_min, dF_max, dI_ii, dI_ib, dI_is, dI_il, dI_it, dI_bi, dI_bb, dI_bs, dI_bl, dI_bt, dI_si, dI_sb, dI_ss, dI_sl, dI_st, dI_li, dI_lb, dI_ls, dI_ll, dI_lt, dI_ti, dI_tb, dI_ts, dI_tl, dI_tt, dI_ni, dI_nb, dI_ns, dI_nl, dI_nt, Option.map_some, List.length_cons, List.length_nil, List.getElem?_cons_zero, List.getElem?_cons_succ, List.getElem?_nil, List.set_cons_zero, List.set_cons_succ, List.set_nil, List.map_cons, List.map_nil, List.cons_append, List.nil_append, List.append_nil, List.replicate, List.getD_cons_zero, List.getD_cons_succ, List.contains_nil, List.contains_cons, Nat.reduceBEq, Bool.or_false, Bool.false_or, Bool.or_self, Bool.or_true, Bool.true_or, List.isEmpty_nil, List.isEmpty_cons, decide_true, decide_false, if_true, if_false, Bool.false_eq_true, Bool.not_true, Bool.not_false, Bool.and_true, Bool.true_and, Bool.and_self, Bool.and_false, Bool.false_and, reduceIte, Nat.zero_add, Nat.reduceAdd, Nat.reduceSub, Nat.reduceLT, Nat.reduceLeDiff, Nat.reduceEqDiff, decide_eq_true_eq, eq_self, Option.some.injEq, reduceCtorEq, Nat.lt_irrefl]
  · exact law_refused _ _ _ _ _ _ _ _ _ _ hr hs hn hd
theorem hm_law : ∀ ds o, mLaw ds = some o → ∃ n, evFn n [false] 15 b_law ds = some o := by
  intro ds o h
  refine ⟨0, ?_⟩
  unfold mLaw at h
  split at h
  case isFalse => cases h
  rename_i hs
  cases h
  unfold scriptB at hs
  split at hs
  case h_2 => cases hs
  rename_i xs
  split at hs
  case h_2 => cases hs
  rename_i ns hx
  have hx := intsOf_some hx
  subst hx
  obtain ⟨rs, e⟩ := law_all ns
  unfold evFn
  have el : 15 - [D.lst false (ns.map D.int)].length = 14 := rfl
  rw [el]
  show ob (evSs 0 [] b_law _) _ = _
  rw [e]
  rfl
end Pv

namespace HdT
open PySem PySem.Spec PyProof.Rows L2 Pv
def top (i : Nat) : Stmt := PySem.Challenge.pw_pageshares_k43_factors.main.body.getD i (.Pass ⟨0, 0, 0, 0⟩)
abbrev s_lowest : Stmt := top 2
abbrev s_InvalidBound_init : Stmt := inClass (top 5) 0
abbrev s_is_whole : Stmt := top 7
abbrev s_check_between : Stmt := top 9
abbrev s_factor_of : Stmt := top 14
abbrev s_factor : Stmt := top 15
abbrev s_check_from_one : Stmt := top 16
abbrev s_L_is_int : Stmt := top 18
abbrev s_L_same : Stmt := top 19
abbrev s_L_gcd : Stmt := top 20
abbrev s_L_low : Stmt := top 21
abbrev s_L_is_fraction : Stmt := top 22
abbrev s_L_times : Stmt := top 23
abbrev s_L_start : Stmt := top 24
abbrev s_L_pull : Stmt := top 25
abbrev s_L_big : Stmt := top 26
abbrev s_L_index : Stmt := top 27
abbrev s_L_asked : Stmt := top 28
abbrev s_law : Stmt := top 29
def d_lowest : He.DefD := ⟨("lowest", none), "lowest", "lowest", defArgs s_lowest, defBody s_lowest, defScope s_lowest, [], []⟩
def d_InvalidBound_init : He.DefD := ⟨("InvalidBound", some "__init__"), "__init__", "InvalidBound.__init__", defArgs s_InvalidBound_init, defBody s_InvalidBound_init, defScope s_InvalidBound_init, [], []⟩
def d_is_whole : He.DefD := ⟨("is_whole", none), "is_whole", "is_whole", defArgs s_is_whole, defBody s_is_whole, defScope s_is_whole, [], []⟩
def d_check_between : He.DefD := ⟨("check_between", none), "check_between", "check_between", defArgs s_check_between, defBody s_check_between, defScope s_check_between, [], []⟩
def d_factor_of : He.DefD := ⟨("factor_of", none), "factor_of", "factor_of", defArgs s_factor_of, defBody s_factor_of, defScope s_factor_of, [], []⟩
def d_factor : He.DefD := ⟨("factor", none), "factor", "factor", defArgs s_factor, defBody s_factor, defScope s_factor, [], []⟩
def d_check_from_one : He.DefD := ⟨("check_from_one", none), "check_from_one", "check_from_one", defArgs s_check_from_one, defBody s_check_from_one, defScope s_check_from_one, [], []⟩
def d_L_is_int : He.DefD := ⟨("_law_is_int", none), "_law_is_int", "_law_is_int", defArgs s_L_is_int, defBody s_L_is_int, defScope s_L_is_int, [], []⟩
def d_L_same : He.DefD := ⟨("_law_same", none), "_law_same", "_law_same", defArgs s_L_same, defBody s_L_same, defScope s_L_same, [], []⟩
def d_L_gcd : He.DefD := ⟨("_law_gcd", none), "_law_gcd", "_law_gcd", defArgs s_L_gcd, defBody s_L_gcd, defScope s_L_gcd, [], []⟩
def d_L_low : He.DefD := ⟨("_law_low", none), "_law_low", "_law_low", defArgs s_L_low, defBody s_L_low, defScope s_L_low, [], []⟩
def d_L_is_fraction : He.DefD := ⟨("_law_is_fraction", none), "_law_is_fraction", "_law_is_fraction", defArgs s_L_is_fraction, defBody s_L_is_fraction, defScope s_L_is_fraction, [], []⟩
def d_L_times : He.DefD := ⟨("_law_times", none), "_law_times", "_law_times", defArgs s_L_times, defBody s_L_times, defScope s_L_times, [], []⟩
def d_L_start : He.DefD := ⟨("_law_start", none), "_law_start", "_law_start", defArgs s_L_start, defBody s_L_start, defScope s_L_start, [], []⟩
def d_L_pull : He.DefD := ⟨("_law_pull", none), "_law_pull", "_law_pull", defArgs s_L_pull, defBody s_L_pull, defScope s_L_pull, [], []⟩
def d_L_big : He.DefD := ⟨("_law_big", none), "_law_big", "_law_big", defArgs s_L_big, defBody s_L_big, defScope s_L_big, [], []⟩
def d_L_index : He.DefD := ⟨("_law_index", none), "_law_index", "_law_index", defArgs s_L_index, defBody s_L_index, defScope s_L_index, [], []⟩
def d_L_asked : He.DefD := ⟨("_law_asked", none), "_law_asked", "_law_asked", defArgs s_L_asked, defBody s_L_asked, defScope s_L_asked, [], []⟩
def d_law : He.DefD := ⟨("law", none), "law", "law", defArgs s_law, defBody s_law, defScope s_law, [], []⟩
def fns0 : List He.DefD := [d_lowest, d_InvalidBound_init, d_is_whole, d_check_between, d_factor_of, d_factor, d_check_from_one, d_L_is_int, d_L_same, d_L_gcd, d_L_low, d_L_is_fraction, d_L_times, d_L_start, d_L_pull, d_L_big, d_L_index, d_L_asked, d_law]
def fns : List He.DefD := fns0
def loose0 : List PySem.Str := ["lowest", "ShareError", "InvalidBound", "is_whole", "check_between", "LEAST_ROOT", "GREATEST_ROOT", "FAR", "factor_of", "factor", "check_from_one", "_law_is_int", "_law_same", "_law_gcd", "_law_low", "_law_is_fraction", "_law_times", "_law_start", "_law_pull", "_law_big", "_law_index", "_law_asked"]
def loose : List PySem.Str := loose0
def look (K : Fr) : Bool := gloB K "_law_is_int" && (gloB K "_law_same" && (gloB K "lowest" && (gloB K "factor_of" && (gloB K "is_whole" && (gloB K "check_between" && (gloB K "check_from_one" && (gloB K "factor" && (gloB K "_law_gcd" && (gloB K "_law_low" && (gloB K "_law_times" && (gloB K "_law_is_fraction" && (gloB K "_law_pull" && (gloB K "_law_big" && (gloB K "_law_asked" && (gloB K "_law_index" && (gloB K "_law_start" && (gloB K "law" && (seerB K && (freeB K "isinstance" && (freeB K "int" && (freeB K "bool" && (freeB K "range" && (freeB K "len" && (freeB K "tuple" && (freeB K "list" && (freeB K "str" && (freeB K "abs" && (He.eqO (PySem.W.nsIn K mainGlobals "gcd") (some (some (.builtin "math.gcd"))) && (excB K "InvalidBound" ["name"] d_InvalidBound_init && (intB K "FAR" 10000000000000000000000000000000000000000 && (intB K "LEAST_ROOT" (-25) && (intB K "GREATEST_ROOT" 1 && (tabB K xcs xfs xbs)))))))))))))))))))))))))))))))))
abbrev RW : PySem.W.OpenRow := PySem.W.OpenLaw.row PySem.Challenge.rw_pageshares_k43_factors
abbrev hk : PySem.W.Hook := hookP 5 fns look
def obs1 (s : PySem.W.SharedT) : He.AlD := obsP 5 fns look (HandSHeadRun.getT s)
theorem obs1_eq (s : PySem.W.SharedT) : obs1 s = hk.obs s.abs := obsP_eq (HandSHeadRun.getT_eq s)
theorem run (w : World) : HandSHeadRun.RunEqI RW (PySem.W.view RW.prog [0, 29]) hk obs1 100000 loose w := by
  unfold HandSHeadRun.RunEqI
  kernel_rfl
section
variable {w : World} {mg mb : Str → Option Value} {fa : Addr} {h base : Heap} {K : Fr}
structure Gd (w : World) (mg mb : Str → Option Value) (h base : Heap) (K : Fr) : Prop where
  X : K.In h
  c : SaysP fns look K
  G : h.Ns mainGlobals mg
  B : h.Ns builtinsNs mb
  bi : ∀ x : Str, x ≠ "__name__" → mb x = bootBuiltins x
  Y : K.In base
  Gb : base.Ns mainGlobals mg
abbrev gv (w : World) (mg : Str → Option Value) (base : Heap) (K : Fr) : Gv := ⟨RW.prog, w, K, mg, base⟩
theorem bits (g : Gd w mg mb h base K) : (gloB K "_law_is_int") = true ∧ (gloB K "_law_same") = true ∧ (gloB K "lowest") = true ∧ (gloB K "factor_of") = true ∧ (gloB K "is_whole") = true ∧ (gloB K "check_between") = true ∧ (gloB K "check_from_one") = true ∧ (gloB K "factor") = true ∧ (gloB K "_law_gcd") = true ∧ (gloB K "_law_low") = true ∧ (gloB K "_law_times") = true ∧ (gloB K "_law_is_fraction") = true ∧ (gloB K "_law_pull") = true ∧ (gloB K "_law_big") = true ∧ (gloB K "_law_asked") = true ∧ (gloB K "_law_index") = true ∧ (gloB K "_law_start") = true ∧ (gloB K "law") = true ∧ (seerB K) = true ∧ (freeB K "isinstance") = true ∧ (freeB K "int") = true ∧ (freeB K "bool") = true ∧ (freeB K "range") = true ∧ (freeB K "len") = true ∧ (freeB K "tuple") = true ∧ (freeB K "list") = true ∧ (freeB K "str") = true ∧ (freeB K "abs") = true ∧ (He.eqO (PySem.W.nsIn K mainGlobals "gcd") (some (some (.builtin "math.gcd")))) = true ∧ (excB K "InvalidBound" ["name"] d_InvalidBound_init) = true ∧ (intB K "FAR" 10000000000000000000000000000000000000000) = true ∧ (intB K "LEAST_ROOT" (-25)) = true ∧ (intB K "GREATEST_ROOT" 1) = true ∧ (tabB K xcs xfs xbs) = true := by
  have e := g.c.p
  unfold look at e
  simpa only [Bool.and_eq_true] using e
theorem seer (g : Gd w mg mb h base K) : base.NoSeer := seer_of g.X g.Y g.B g.bi g.Gb (bits g).2.2.2.2.2.2.2.2.2.2.2.2.2.2.2.2.2.2.1
theorem tree : RW.prog.given.tree = none := by rfl
theorem fr_isinstance (g : Gd w mg mb h base K) : mg "isinstance" = none := PySem.W.mg_none_of g.X g.G (He.eqO_ok (bits g).2.2.2.2.2.2.2.2.2.2.2.2.2.2.2.2.2.2.2.1)
theorem fr_int (g : Gd w mg mb h base K) : mg "int" = none := PySem.W.mg_none_of g.X g.G (He.eqO_ok (bits g).2.2.2.2.2.2.2.2.2.2.2.2.2.2.2.2.2.2.2.2.1)
theorem fr_bool (g : Gd w mg mb h base K) : mg "bool" = none := PySem.W.mg_none_of g.X g.G (He.eqO_ok (bits g).2.2.2.2.2.2.2.2.2.2.2.2.2.2.2.2.2.2.2.2.2.1)
theorem fr_range (g : Gd w mg mb h base K) : mg "range" = none := PySem.W.mg_none_of g.X g.G (He.eqO_ok (bits g).2.2.2.2.2.2.2.2.2.2.2.2.2.2.2.2.2.2.2.2.2.2.1)
theorem fr_len (g : Gd w mg mb h base K) : mg "len" = none := PySem.W.mg_none_of g.X g.G (He.eqO_ok (bits g).2.2.2.2.2.2.2.2.2.2.2.2.2.2.2.2.2.2.2.2.2.2.2.1)
theorem fr_tuple (g : Gd w mg mb h base K) : mg "tuple" = none := PySem.W.mg_none_of g.X g.G (He.eqO_ok (bits g).2.2.2.2.2.2.2.2.2.2.2.2.2.2.2.2.2.2.2.2.2.2.2.2.1)
theorem fr_list (g : Gd w mg mb h base K) : mg "list" = none := PySem.W.mg_none_of g.X g.G (He.eqO_ok (bits g).2.2.2.2.2.2.2.2.2.2.2.2.2.2.2.2.2.2.2.2.2.2.2.2.2.1)
theorem fr_str (g : Gd w mg mb h base K) : mg "str" = none := PySem.W.mg_none_of g.X g.G (He.eqO_ok (bits g).2.2.2.2.2.2.2.2.2.2.2.2.2.2.2.2.2.2.2.2.2.2.2.2.2.2.1)
theorem fr_abs (g : Gd w mg mb h base K) : mg "abs" = none := PySem.W.mg_none_of g.X g.G (He.eqO_ok (bits g).2.2.2.2.2.2.2.2.2.2.2.2.2.2.2.2.2.2.2.2.2.2.2.2.2.2.2.1)
theorem has_gcd (g : Gd w mg mb h base K) : mg "gcd" = some (.builtin "math.gcd") := PySem.W.mg_of g.X g.G (He.eqO_ok (bits g).2.2.2.2.2.2.2.2.2.2.2.2.2.2.2.2.2.2.2.2.2.2.2.2.2.2.2.2.1)
theorem c_FAR (g : Gd w mg mb h base K) : GlHas (gv w mg base K) "FAR" (.int 10000000000000000000000000000000000000000) := glHas_int g.X g.G (bits g).2.2.2.2.2.2.2.2.2.2.2.2.2.2.2.2.2.2.2.2.2.2.2.2.2.2.2.2.2.2.1
theorem c_LEAST_ROOT (g : Gd w mg mb h base K) : GlHas (gv w mg base K) "LEAST_ROOT" (.int (-25)) := glHas_int g.X g.G (bits g).2.2.2.2.2.2.2.2.2.2.2.2.2.2.2.2.2.2.2.2.2.2.2.2.2.2.2.2.2.2.2.1
theorem c_GREATEST_ROOT (g : Gd w mg mb h base K) : GlHas (gv w mg base K) "GREATEST_ROOT" (.int 1) := glHas_int g.X g.G (bits g).2.2.2.2.2.2.2.2.2.2.2.2.2.2.2.2.2.2.2.2.2.2.2.2.2.2.2.2.2.2.2.2.1
theorem x_InvalidBound (g : Gd w mg mb h base K) : ExcHas (gv w mg base K) "InvalidBound" ["name"] := by
  obtain ⟨fd, F⟩ := g.c.def_ 1 (d := d_InvalidBound_init) rfl
  have F' : FunD K d_InvalidBound_init.name d_InvalidBound_init.qual d_InvalidBound_init.params d_InvalidBound_init.body d_InvalidBound_init.scope [] [] (He.fAd K d_InvalidBound_init.at_) fd := F
  exact ⟨_, _, exc_of g.X g.G (bits g).2.2.2.2.2.2.2.2.2.2.2.2.2.2.2.2.2.2.2.2.2.2.2.2.2.2.2.2.2.1 F' (by decide +kernel) (F'.bindsN (fun kV doc pm an cdv ct us hl => by
    match us, hl with
    | [u0, u1], _ => rfl)) (by decide +kernel) (by decide +kernel) (by decide +kernel) (by decide +kernel) (by decide +kernel) (by decide) (by decide), by decide +kernel⟩
theorem tab (g : Gd w mg mb h base K) : XTab (gv w mg base K) xcs xfs xbs := tab_of (V := gv w mg base K) g.X g.G (bits g).2.2.2.2.2.2.2.2.2.2.2.2.2.2.2.2.2.2.2.2.2.2.2.2.2.2.2.2.2.2.2.2.2
theorem hF_L_is_int (g : Gd w mg mb h base K) : ∀ km, 40 < km → FnHas (gv w mg base K) km "_law_is_int" F_L_is_int := by
  obtain ⟨fd, F⟩ := g.c.def_ 7 (d := d_L_is_int) rfl
  have F' : FunD K d_L_is_int.name d_L_is_int.qual d_L_is_int.params d_L_is_int.body d_L_is_int.scope [] [] (He.fAd K d_L_is_int.at_) fd := F
  intro km hk
  refine fnHas_of (k := 40) (N := ["_law_told"]) (ps := ["_law_told"]) (b := b_L_is_int) F' g.X g.G "_law_is_int" rfl (bits g).1 (F'.bindsN (fun kV doc pm an cdv ct us hl => by
    match us, hl with
    | [u0], _ => rfl)) (C8.fnScope_by (by decide +kernel)) rfl (by decide) hk (seer g) tree (by decide +kernel) ?_ hm_L_is_int
  · simp only [b_L_is_int, OkSs, OkS, OkE, OkL, OkI, PfHas, fnN]
    repeat' apply And.intro
    all_goals first | trivial | exact (fr_isinstance g) | exact (fr_int g) | exact (fr_bool g)
theorem hF_L_same0 (g : Gd w mg mb h base K) : ∀ km, 41 < km → FnHas (gv w mg base K) km "_law_same" (F_L_same 0) := by
  obtain ⟨fd, F⟩ := g.c.def_ 8 (d := d_L_same) rfl
  have F' : FunD K d_L_same.name d_L_same.qual d_L_same.params d_L_same.body d_L_same.scope [] [] (He.fAd K d_L_same.at_) fd := F
  intro km hk
  exact fnHas_nil (k := 41) (ps := ["_law_told", "_law_due"]) F' g.X g.G "_law_same" rfl (bits g).2.1 (F'.bindsN (fun kV doc pm an cdv ct us hl => by
    match us, hl with
    | [u0, u1], _ => rfl)) (C8.fnScope_by (N := ["_law_told", "_law_due", "_law_k"]) (by decide +kernel)) rfl hk (fun ds => by
    match ds with
    | [] => rfl
    | [a] => rfl
    | [a, b] => simp [F_L_same, m_same, plain_0]
    | _ :: _ :: _ :: _ => rfl)
theorem hF_L_same1 (g : Gd w mg mb h base K) : ∀ km, 42 < km → FnHas (gv w mg base K) km "_law_same" (F_L_same 1) := by
  obtain ⟨fd, F⟩ := g.c.def_ 8 (d := d_L_same) rfl
  have F' : FunD K d_L_same.name d_L_same.qual d_L_same.params d_L_same.body d_L_same.scope [] [] (He.fAd K d_L_same.at_) fd := F
  intro km hk
  refine fnHas_of (k := 42) (N := ["_law_told", "_law_due", "_law_k"]) (ps := ["_law_told", "_law_due"]) (b := (b_L_same 0)) F' g.X g.G "_law_same" rfl (bits g).2.1 (F'.bindsN (fun kV doc pm an cdv ct us hl => by
    match us, hl with
    | [u0, u1], _ => rfl)) (C8.fnScope_by (by decide +kernel)) rfl (by decide) hk (seer g) tree (by decide +kernel) ?_ (hm_L_same 0)
  · simp only [b_L_same, OkSs, OkS, OkE, OkL, OkI, PfHas, fnN]
    repeat' apply And.intro
    all_goals first | trivial | exact (hF_L_is_int g _ (by decide)) | exact (fr_range g) | exact (fr_len g) | exact (fr_isinstance g) | exact (fr_tuple g) | exact (fr_list g) | exact (fr_str g) | exact (fr_int g) | exact (fr_bool g) | exact (hF_L_same0 g _ (by decide))
theorem hF_L_same2 (g : Gd w mg mb h base K) : ∀ km, 43 < km → FnHas (gv w mg base K) km "_law_same" (F_L_same 2) := by
  obtain ⟨fd, F⟩ := g.c.def_ 8 (d := d_L_same) rfl
  have F' : FunD K d_L_same.name d_L_same.qual d_L_same.params d_L_same.body d_L_same.scope [] [] (He.fAd K d_L_same.at_) fd := F
  intro km hk
  refine fnHas_of (k := 43) (N := ["_law_told", "_law_due", "_law_k"]) (ps := ["_law_told", "_law_due"]) (b := (b_L_same 1)) F' g.X g.G "_law_same" rfl (bits g).2.1 (F'.bindsN (fun kV doc pm an cdv ct us hl => by
    match us, hl with
    | [u0, u1], _ => rfl)) (C8.fnScope_by (by decide +kernel)) rfl (by decide) hk (seer g) tree (by decide +kernel) ?_ (hm_L_same 1)
  · simp only [b_L_same, OkSs, OkS, OkE, OkL, OkI, PfHas, fnN]
    repeat' apply And.intro
    all_goals first | trivial | exact (hF_L_is_int g _ (by decide)) | exact (fr_range g) | exact (fr_len g) | exact (fr_isinstance g) | exact (fr_tuple g) | exact (fr_list g) | exact (fr_str g) | exact (fr_int g) | exact (fr_bool g) | exact (hF_L_same1 g _ (by decide))
theorem hF_L_same3 (g : Gd w mg mb h base K) : ∀ km, 44 < km → FnHas (gv w mg base K) km "_law_same" (F_L_same 3) := by
  obtain ⟨fd, F⟩ := g.c.def_ 8 (d := d_L_same) rfl
  have F' : FunD K d_L_same.name d_L_same.qual d_L_same.params d_L_same.body d_L_same.scope [] [] (He.fAd K d_L_same.at_) fd := F
  intro km hk
  refine fnHas_of (k := 44) (N := ["_law_told", "_law_due", "_law_k"]) (ps := ["_law_told", "_law_due"]) (b := (b_L_same 2)) F' g.X g.G "_law_same" rfl (bits g).2.1 (F'.bindsN (fun kV doc pm an cdv ct us hl => by
    match us, hl with
    | [u0, u1], _ => rfl)) (C8.fnScope_by (by decide +kernel)) rfl (by decide) hk (seer g) tree (by decide +kernel) ?_ (hm_L_same 2)
  · simp only [b_L_same, OkSs, OkS, OkE, OkL, OkI, PfHas, fnN]
    repeat' apply And.intro
    all_goals first | trivial | exact (hF_L_is_int g _ (by decide)) | exact (fr_range g) | exact (fr_len g) | exact (fr_isinstance g) | exact (fr_tuple g) | exact (fr_list g) | exact (fr_str g) | exact (fr_int g) | exact (fr_bool g) | exact (hF_L_same2 g _ (by decide))
theorem hF_L_same4 (g : Gd w mg mb h base K) : ∀ km, 45 < km → FnHas (gv w mg base K) km "_law_same" (F_L_same 4) := by
  obtain ⟨fd, F⟩ := g.c.def_ 8 (d := d_L_same) rfl
  have F' : FunD K d_L_same.name d_L_same.qual d_L_same.params d_L_same.body d_L_same.scope [] [] (He.fAd K d_L_same.at_) fd := F
  intro km hk
  refine fnHas_of (k := 45) (N := ["_law_told", "_law_due", "_law_k"]) (ps := ["_law_told", "_law_due"]) (b := (b_L_same 3)) F' g.X g.G "_law_same" rfl (bits g).2.1 (F'.bindsN (fun kV doc pm an cdv ct us hl => by
    match us, hl with
    | [u0, u1], _ => rfl)) (C8.fnScope_by (by decide +kernel)) rfl (by decide) hk (seer g) tree (by decide +kernel) ?_ (hm_L_same 3)
  · simp only [b_L_same, OkSs, OkS, OkE, OkL, OkI, PfHas, fnN]
    repeat' apply And.intro
    all_goals first | trivial | exact (hF_L_is_int g _ (by decide)) | exact (fr_range g) | exact (fr_len g) | exact (fr_isinstance g) | exact (fr_tuple g) | exact (fr_list g) | exact (fr_str g) | exact (fr_int g) | exact (fr_bool g) | exact (hF_L_same3 g _ (by decide))
theorem hF_L_same5 (g : Gd w mg mb h base K) : ∀ km, 46 < km → FnHas (gv w mg base K) km "_law_same" (F_L_same 5) := by
  obtain ⟨fd, F⟩ := g.c.def_ 8 (d := d_L_same) rfl
  have F' : FunD K d_L_same.name d_L_same.qual d_L_same.params d_L_same.body d_L_same.scope [] [] (He.fAd K d_L_same.at_) fd := F
  intro km hk
  refine fnHas_of (k := 46) (N := ["_law_told", "_law_due", "_law_k"]) (ps := ["_law_told", "_law_due"]) (b := (b_L_same 4)) F' g.X g.G "_law_same" rfl (bits g).2.1 (F'.bindsN (fun kV doc pm an cdv ct us hl => by
    match us, hl with
    | [u0, u1], _ => rfl)) (C8.fnScope_by (by decide +kernel)) rfl (by decide) hk (seer g) tree (by decide +kernel) ?_ (hm_L_same 4)
  · simp only [b_L_same, OkSs, OkS, OkE, OkL, OkI, PfHas, fnN]
    repeat' apply And.intro
    all_goals first | trivial | exact (hF_L_is_int g _ (by decide)) | exact (fr_range g) | exact (fr_len g) | exact (fr_isinstance g) | exact (fr_tuple g) | exact (fr_list g) | exact (fr_str g) | exact (fr_int g) | exact (fr_bool g) | exact (hF_L_same4 g _ (by decide))
theorem hF_L_same6 (g : Gd w mg mb h base K) : ∀ km, 47 < km → FnHas (gv w mg base K) km "_law_same" (F_L_same 6) := by
  obtain ⟨fd, F⟩ := g.c.def_ 8 (d := d_L_same) rfl
  have F' : FunD K d_L_same.name d_L_same.qual d_L_same.params d_L_same.body d_L_same.scope [] [] (He.fAd K d_L_same.at_) fd := F
  intro km hk
  refine fnHas_of (k := 47) (N := ["_law_told", "_law_due", "_law_k"]) (ps := ["_law_told", "_law_due"]) (b := (b_L_same 5)) F' g.X g.G "_law_same" rfl (bits g).2.1 (F'.bindsN (fun kV doc pm an cdv ct us hl => by
    match us, hl with
    | [u0, u1], _ => rfl)) (C8.fnScope_by (by decide +kernel)) rfl (by decide) hk (seer g) tree (by decide +kernel) ?_ (hm_L_same 5)
  · simp only [b_L_same, OkSs, OkS, OkE, OkL, OkI, PfHas, fnN]
    repeat' apply And.intro
    all_goals first | trivial | exact (hF_L_is_int g _ (by decide)) | exact (fr_range g) | exact (fr_len g) | exact (fr_isinstance g) | exact (fr_tuple g) | exact (fr_list g) | exact (fr_str g) | exact (fr_int g) | exact (fr_bool g) | exact (hF_L_same5 g _ (by decide))
theorem hF_L_same7 (g : Gd w mg mb h base K) : ∀ km, 48 < km → FnHas (gv w mg base K) km "_law_same" (F_L_same 7) := by
  obtain ⟨fd, F⟩ := g.c.def_ 8 (d := d_L_same) rfl
  have F' : FunD K d_L_same.name d_L_same.qual d_L_same.params d_L_same.body d_L_same.scope [] [] (He.fAd K d_L_same.at_) fd := F
  intro km hk
  refine fnHas_of (k := 48) (N := ["_law_told", "_law_due", "_law_k"]) (ps := ["_law_told", "_law_due"]) (b := (b_L_same 6)) F' g.X g.G "_law_same" rfl (bits g).2.1 (F'.bindsN (fun kV doc pm an cdv ct us hl => by
    match us, hl with
    | [u0, u1], _ => rfl)) (C8.fnScope_by (by decide +kernel)) rfl (by decide) hk (seer g) tree (by decide +kernel) ?_ (hm_L_same 6)
  · simp only [b_L_same, OkSs, OkS, OkE, OkL, OkI, PfHas, fnN]
    repeat' apply And.intro
    all_goals first | trivial | exact (hF_L_is_int g _ (by decide)) | exact (fr_range g) | exact (fr_len g) | exact (fr_isinstance g) | exact (fr_tuple g) | exact (fr_list g) | exact (fr_str g) | exact (fr_int g) | exact (fr_bool g) | exact (hF_L_same6 g _ (by decide))
theorem hF_L_same8 (g : Gd w mg mb h base K) : ∀ km, 49 < km → FnHas (gv w mg base K) km "_law_same" (F_L_same 8) := by
  obtain ⟨fd, F⟩ := g.c.def_ 8 (d := d_L_same) rfl
  have F' : FunD K d_L_same.name d_L_same.qual d_L_same.params d_L_same.body d_L_same.scope [] [] (He.fAd K d_L_same.at_) fd := F
  intro km hk
  refine fnHas_of (k := 49) (N := ["_law_told", "_law_due", "_law_k"]) (ps := ["_law_told", "_law_due"]) (b := (b_L_same 7)) F' g.X g.G "_law_same" rfl (bits g).2.1 (F'.bindsN (fun kV doc pm an cdv ct us hl => by
    match us, hl with
    | [u0, u1], _ => rfl)) (C8.fnScope_by (by decide +kernel)) rfl (by decide) hk (seer g) tree (by decide +kernel) ?_ (hm_L_same 7)
  · simp only [b_L_same, OkSs, OkS, OkE, OkL, OkI, PfHas, fnN]
    repeat' apply And.intro
    all_goals first | trivial | exact (hF_L_is_int g _ (by decide)) | exact (fr_range g) | exact (fr_len g) | exact (fr_isinstance g) | exact (fr_tuple g) | exact (fr_list g) | exact (fr_str g) | exact (fr_int g) | exact (fr_bool g) | exact (hF_L_same7 g _ (by decide))
theorem hF_lowest (g : Gd w mg mb h base K) : ∀ km, 51 < km → FnHas (gv w mg base K) km "lowest" F_lowest := by
  obtain ⟨fd, F⟩ := g.c.def_ 0 (d := d_lowest) rfl
  have F' : FunD K d_lowest.name d_lowest.qual d_lowest.params d_lowest.body d_lowest.scope [] [] (He.fAd K d_lowest.at_) fd := F
  intro km hk
  refine fnHas_of (k := 51) (N := ["top", "bottom", "common"]) (ps := ["top", "bottom"]) (b := b_lowest) F' g.X g.G "lowest" rfl (bits g).2.2.1 (F'.bindsN (fun kV doc pm an cdv ct us hl => by
    match us, hl with
    | [u0, u1], _ => rfl)) (C8.fnScope_by (by decide +kernel)) rfl (by decide) hk (seer g) tree (by decide +kernel) ?_ hm_lowest
  · simp only [b_lowest, OkSs, OkS, OkE, OkL, OkI, PfHas, fnN]
    repeat' apply And.intro
    all_goals first | trivial | exact (has_gcd g)
theorem hF_factor_of (g : Gd w mg mb h base K) : ∀ km, 52 < km → FnHas (gv w mg base K) km "factor_of" F_factor_of := by
  obtain ⟨fd, F⟩ := g.c.def_ 4 (d := d_factor_of) rfl
  have F' : FunD K d_factor_of.name d_factor_of.qual d_factor_of.params d_factor_of.body d_factor_of.scope [] [] (He.fAd K d_factor_of.at_) fd := F
  intro km hk
  refine fnHas_of (k := 52) (N := ["root", "start", "n", "k", "top", "bottom", "step", "present"]) (ps := ["root", "start", "n"]) (b := b_factor_of) F' g.X g.G "factor_of" rfl (bits g).2.2.2.1 (F'.bindsN (fun kV doc pm an cdv ct us hl => by
    match us, hl with
    | [u0, u1, u2], _ => rfl)) (C8.fnScope_by (by decide +kernel)) rfl (by decide) hk (seer g) tree (by decide +kernel) ?_ hm_factor_of
  · simp only [b_factor_of, OkSs, OkS, OkE, OkL, OkI, PfHas, fnN]
    repeat' apply And.intro
    all_goals first | trivial | exact (hF_lowest g _ (by decide)) | exact (fr_range g)
theorem hF_is_whole (g : Gd w mg mb h base K) : ∀ km, 53 < km → FnHas (gv w mg base K) km "is_whole" F_is_whole := by
  obtain ⟨fd, F⟩ := g.c.def_ 2 (d := d_is_whole) rfl
  have F' : FunD K d_is_whole.name d_is_whole.qual d_is_whole.params d_is_whole.body d_is_whole.scope [] [] (He.fAd K d_is_whole.at_) fd := F
  intro km hk
  refine fnHas_of (k := 53) (N := ["value"]) (ps := ["value"]) (b := b_is_whole) F' g.X g.G "is_whole" rfl (bits g).2.2.2.2.1 (F'.bindsN (fun kV doc pm an cdv ct us hl => by
    match us, hl with
    | [u0], _ => rfl)) (C8.fnScope_by (by decide +kernel)) rfl (by decide) hk (seer g) tree (by decide +kernel) ?_ hm_is_whole
  · simp only [b_is_whole, OkSs, OkS, OkE, OkL, OkI, PfHas, fnN]
    repeat' apply And.intro
    all_goals first | trivial | exact (fr_isinstance g) | exact (fr_int g) | exact (fr_bool g)
theorem hF_check_between (g : Gd w mg mb h base K) : ∀ km, 54 < km → FnHas (gv w mg base K) km "check_between" F_check_between := by
  obtain ⟨fd, F⟩ := g.c.def_ 3 (d := d_check_between) rfl
  have F' : FunD K d_check_between.name d_check_between.qual d_check_between.params d_check_between.body d_check_between.scope [] [] (He.fAd K d_check_between.at_) fd := F
  intro km hk
  refine fnHas_of (k := 54) (N := ["value", "name", "low", "high"]) (ps := ["value", "name", "low", "high"]) (b := b_check_between) F' g.X g.G "check_between" rfl (bits g).2.2.2.2.2.1 (F'.bindsN (fun kV doc pm an cdv ct us hl => by
    match us, hl with
    | [u0, u1, u2, u3], _ => rfl)) (C8.fnScope_by (by decide +kernel)) rfl (by decide) hk (seer g) tree (by decide +kernel) ?_ hm_check_between
  · simp only [b_check_between, OkSs, OkS, OkE, OkL, OkI, PfHas, fnN]
    repeat' apply And.intro
    all_goals first | trivial | exact (hF_is_whole g _ (by decide)) | exact (x_InvalidBound g)
theorem hF_check_from_one (g : Gd w mg mb h base K) : ∀ km, 55 < km → FnHas (gv w mg base K) km "check_from_one" F_check_from_one := by
  obtain ⟨fd, F⟩ := g.c.def_ 6 (d := d_check_from_one) rfl
  have F' : FunD K d_check_from_one.name d_check_from_one.qual d_check_from_one.params d_check_from_one.body d_check_from_one.scope [] [] (He.fAd K d_check_from_one.at_) fd := F
  intro km hk
  refine fnHas_of (k := 55) (N := ["start"]) (ps := ["start"]) (b := b_check_from_one) F' g.X g.G "check_from_one" rfl (bits g).2.2.2.2.2.2.1 (F'.bindsN (fun kV doc pm an cdv ct us hl => by
    match us, hl with
    | [u0], _ => rfl)) (C8.fnScope_by (by decide +kernel)) rfl (by decide) hk (seer g) tree (by decide +kernel) ?_ hm_check_from_one
  · simp only [b_check_from_one, OkSs, OkS, OkE, OkL, OkI, PfHas, fnN]
    repeat' apply And.intro
    all_goals first | trivial | exact (fr_isinstance g) | exact (fr_int g) | exact (fr_bool g) | exact (x_InvalidBound g)
theorem hF_factor (g : Gd w mg mb h base K) : ∀ km, 56 < km → FnHas (gv w mg base K) km "factor" F_factor := by
  obtain ⟨fd, F⟩ := g.c.def_ 5 (d := d_factor) rfl
  have F' : FunD K d_factor.name d_factor.qual d_factor.params d_factor.body d_factor.scope [] [] (He.fAd K d_factor.at_) fd := F
  intro km hk
  refine fnHas_of (k := 56) (N := ["root", "start", "n"]) (ps := ["root", "start", "n"]) (b := b_factor) F' g.X g.G "factor" rfl (bits g).2.2.2.2.2.2.2.1 (F'.bindsN (fun kV doc pm an cdv ct us hl => by
    match us, hl with
    | [u0, u1, u2], _ => rfl)) (C8.fnScope_by (by decide +kernel)) rfl (by decide) hk (seer g) tree (by decide +kernel) ?_ (fun ds o e => ⟨0, e⟩)
  · simp only [b_factor, OkSs, OkS, OkE, OkL, OkI, PfHas, fnN]
    repeat' apply And.intro
    all_goals first | trivial | exact (hF_factor_of g _ (by decide)) | exact (hF_check_between g _ (by decide)) | exact (hF_check_from_one g _ (by decide)) | exact (c_FAR g) | exact (c_LEAST_ROOT g) | exact (c_GREATEST_ROOT g)
theorem hF_L_gcd (g : Gd w mg mb h base K) : ∀ km, 57 < km → FnHas (gv w mg base K) km "_law_gcd" F_L_gcd := by
  obtain ⟨fd, F⟩ := g.c.def_ 9 (d := d_L_gcd) rfl
  have F' : FunD K d_L_gcd.name d_L_gcd.qual d_L_gcd.params d_L_gcd.body d_L_gcd.scope [] [] (He.fAd K d_L_gcd.at_) fd := F
  intro km hk
  refine fnHas_of (k := 57) (N := ["_law_one", "_law_other", "_law_left"]) (ps := ["_law_one", "_law_other"]) (b := b_L_gcd) F' g.X g.G "_law_gcd" rfl (bits g).2.2.2.2.2.2.2.2.1 (F'.bindsN (fun kV doc pm an cdv ct us hl => by
    match us, hl with
    | [u0, u1], _ => rfl)) (C8.fnScope_by (by decide +kernel)) rfl (by decide) hk (seer g) tree (by decide +kernel) ?_ hm_L_gcd
  · simp only [b_L_gcd, OkSs, OkS, OkE, OkL, OkI, PfHas, fnN]
    repeat' apply And.intro
    all_goals first | trivial | exact (fr_int g)
theorem hF_L_low (g : Gd w mg mb h base K) : ∀ km, 58 < km → FnHas (gv w mg base K) km "_law_low" F_L_low := by
  obtain ⟨fd, F⟩ := g.c.def_ 10 (d := d_L_low) rfl
  have F' : FunD K d_L_low.name d_L_low.qual d_L_low.params d_L_low.body d_L_low.scope [] [] (He.fAd K d_L_low.at_) fd := F
  intro km hk
  refine fnHas_of (k := 58) (N := ["_law_top", "_law_bottom", "_law_common"]) (ps := ["_law_top", "_law_bottom"]) (b := b_L_low) F' g.X g.G "_law_low" rfl (bits g).2.2.2.2.2.2.2.2.2.1 (F'.bindsN (fun kV doc pm an cdv ct us hl => by
    match us, hl with
    | [u0, u1], _ => rfl)) (C8.fnScope_by (by decide +kernel)) rfl (by decide) hk (seer g) tree (by decide +kernel) ?_ hm_L_low
  · simp only [b_L_low, OkSs, OkS, OkE, OkL, OkI, PfHas, fnN]
    repeat' apply And.intro
    all_goals first | trivial | exact (hF_L_gcd g _ (by decide)) | exact (fr_abs g)
theorem hF_L_times (g : Gd w mg mb h base K) : ∀ km, 59 < km → FnHas (gv w mg base K) km "_law_times" F_L_times := by
  obtain ⟨fd, F⟩ := g.c.def_ 12 (d := d_L_times) rfl
  have F' : FunD K d_L_times.name d_L_times.qual d_L_times.params d_L_times.body d_L_times.scope [] [] (He.fAd K d_L_times.at_) fd := F
  intro km hk
  refine fnHas_of (k := 59) (N := ["_law_one", "_law_other"]) (ps := ["_law_one", "_law_other"]) (b := b_L_times) F' g.X g.G "_law_times" rfl (bits g).2.2.2.2.2.2.2.2.2.2.1 (F'.bindsN (fun kV doc pm an cdv ct us hl => by
    match us, hl with
    | [u0, u1], _ => rfl)) (C8.fnScope_by (by decide +kernel)) rfl (by decide) hk (seer g) tree (by decide +kernel) ?_ hm_L_times
  · simp only [b_L_times, OkSs, OkS, OkE, OkL, OkI, PfHas, fnN]
    repeat' apply And.intro
    all_goals first | trivial | exact (hF_L_low g _ (by decide))
theorem hF_L_is_fraction (g : Gd w mg mb h base K) : ∀ km, 60 < km → FnHas (gv w mg base K) km "_law_is_fraction" F_L_is_fraction := by
  obtain ⟨fd, F⟩ := g.c.def_ 11 (d := d_L_is_fraction) rfl
  have F' : FunD K d_L_is_fraction.name d_L_is_fraction.qual d_L_is_fraction.params d_L_is_fraction.body d_L_is_fraction.scope [] [] (He.fAd K d_L_is_fraction.at_) fd := F
  intro km hk
  refine fnHas_of (k := 60) (N := ["_law_told"]) (ps := ["_law_told"]) (b := b_L_is_fraction) F' g.X g.G "_law_is_fraction" rfl (bits g).2.2.2.2.2.2.2.2.2.2.2.1 (F'.bindsN (fun kV doc pm an cdv ct us hl => by
    match us, hl with
    | [u0], _ => rfl)) (C8.fnScope_by (by decide +kernel)) rfl (by decide) hk (seer g) tree (by decide +kernel) ?_ (fun ds o e => ⟨0, e⟩)
  · simp only [b_L_is_fraction, OkSs, OkS, OkE, OkL, OkI, PfHas, fnN]
    repeat' apply And.intro
    all_goals first | trivial | exact (hF_L_gcd g _ (by decide)) | exact (hF_L_is_int g _ (by decide)) | exact (fr_abs g) | exact (fr_isinstance g) | exact (fr_tuple g) | exact (fr_len g)
theorem hF_L_pull (g : Gd w mg mb h base K) : ∀ km, 61 < km → FnHas (gv w mg base K) km "_law_pull" F_L_pull := by
  obtain ⟨fd, F⟩ := g.c.def_ 14 (d := d_L_pull) rfl
  have F' : FunD K d_L_pull.name d_L_pull.qual d_L_pull.params d_L_pull.body d_L_pull.scope [] [] (He.fAd K d_L_pull.at_) fd := F
  intro km hk
  refine fnHas_of (k := 61) (N := ["_law_state", "_law_many", "_law_cell", "_law_number"]) (ps := ["_law_state", "_law_many"]) (b := b_L_pull) F' g.X g.G "_law_pull" rfl (bits g).2.2.2.2.2.2.2.2.2.2.2.2.1 (F'.bindsN (fun kV doc pm an cdv ct us hl => by
    match us, hl with
    | [u0, u1], _ => rfl)) (C8.fnScope_by (by decide +kernel)) rfl (by decide) hk (seer g) tree (by decide +kernel) ?_ hm_L_pull
  · simp only [b_L_pull, OkSs, OkS, OkE, OkL, OkI, PfHas, fnN]
    repeat' apply And.intro
    all_goals first | trivial | exact (fr_int g) | exact (fr_len g)
theorem hF_L_big (g : Gd w mg mb h base K) : ∀ km, 62 < km → FnHas (gv w mg base K) km "_law_big" F_L_big := by
  obtain ⟨fd, F⟩ := g.c.def_ 15 (d := d_L_big) rfl
  have F' : FunD K d_L_big.name d_L_big.qual d_L_big.params d_L_big.body d_L_big.scope [] [] (He.fAd K d_L_big.at_) fd := F
  intro km hk
  refine fnHas_of (k := 62) (N := ["_law_state", "_law_many", "_law_number", "_law_k"]) (ps := ["_law_state", "_law_many"]) (b := b_L_big) F' g.X g.G "_law_big" rfl (bits g).2.2.2.2.2.2.2.2.2.2.2.2.2.1 (F'.bindsN (fun kV doc pm an cdv ct us hl => by
    match us, hl with
    | [u0, u1], _ => rfl)) (C8.fnScope_by (by decide +kernel)) rfl (by decide) hk (seer g) tree (by decide +kernel) ?_ (fun ds o e => ⟨0, e⟩)
  · simp only [b_L_big, OkSs, OkS, OkE, OkL, OkI, PfHas, fnN]
    repeat' apply And.intro
    all_goals first | trivial | exact (hF_L_pull g _ (by decide)) | exact (fr_int g) | exact (fr_range g)
theorem hF_L_asked (g : Gd w mg mb h base K) : ∀ km, 63 < km → FnHas (gv w mg base K) km "_law_asked" F_L_asked := by
  obtain ⟨fd, F⟩ := g.c.def_ 17 (d := d_L_asked) rfl
  have F' : FunD K d_L_asked.name d_L_asked.qual d_L_asked.params d_L_asked.body d_L_asked.scope [] [] (He.fAd K d_L_asked.at_) fd := F
  intro km hk
  refine fnHas_of (k := 63) (N := ["_law_root", "_law_start_here", "_law_n", "e"]) (ps := ["_law_root", "_law_start_here", "_law_n"]) (b := b_L_asked) F' g.X g.G "_law_asked" rfl (bits g).2.2.2.2.2.2.2.2.2.2.2.2.2.2.1 (F'.bindsN (fun kV doc pm an cdv ct us hl => by
    match us, hl with
    | [u0, u1, u2], _ => rfl)) (C8.fnScope_by (by decide +kernel)) rfl (by decide) hk (seer g) tree (by decide +kernel) ?_ (fun ds o e => ⟨0, e⟩)
  · simp only [b_L_asked, OkSs, OkS, OkE, OkL, OkI, PfHas, fnN]
    repeat' apply And.intro
    all_goals first | trivial | exact (hF_factor g _ (by decide)) | exact (tab g)
theorem hF_L_index (g : Gd w mg mb h base K) : ∀ km, 64 < km → FnHas (gv w mg base K) km "_law_index" F_L_index := by
  obtain ⟨fd, F⟩ := g.c.def_ 16 (d := d_L_index) rfl
  have F' : FunD K d_L_index.name d_L_index.qual d_L_index.params d_L_index.body d_L_index.scope [] [] (He.fAd K d_L_index.at_) fd := F
  intro km hk
  refine fnHas_of (k := 64) (N := ["_law_state", "_law_most", "_law_odd"]) (ps := ["_law_state", "_law_most"]) (b := b_L_index) F' g.X g.G "_law_index" rfl (bits g).2.2.2.2.2.2.2.2.2.2.2.2.2.2.2.1 (F'.bindsN (fun kV doc pm an cdv ct us hl => by
    match us, hl with
    | [u0, u1], _ => rfl)) (C8.fnScope_by (by decide +kernel)) rfl (by decide) hk (seer g) tree (by decide +kernel) ?_ (fun ds o e => ⟨0, e⟩)
  · simp only [b_L_index, OkSs, OkS, OkE, OkL, OkI, PfHas, fnN]
    repeat' apply And.intro
    all_goals first | trivial | exact (hF_L_pull g _ (by decide))
theorem hF_L_start (g : Gd w mg mb h base K) : ∀ km, 65 < km → FnHas (gv w mg base K) km "_law_start" F_L_start := by
  obtain ⟨fd, F⟩ := g.c.def_ 13 (d := d_L_start) rfl
  have F' : FunD K d_L_start.name d_L_start.qual d_L_start.params d_L_start.body d_L_start.scope [] [] (He.fAd K d_L_start.at_) fd := F
  intro km hk
  refine fnHas_of (k := 65) (N := ["_law_script"]) (ps := ["_law_script"]) (b := b_L_start) F' g.X g.G "_law_start" rfl (bits g).2.2.2.2.2.2.2.2.2.2.2.2.2.2.2.2.1 (F'.bindsN (fun kV doc pm an cdv ct us hl => by
    match us, hl with
    | [u0], _ => rfl)) (C8.fnScope_by (by decide +kernel)) rfl (by decide) hk (seer g) tree (by decide +kernel) ?_ (fun ds o e => ⟨0, e⟩)
  · simp only [b_L_start, OkSs, OkS, OkE, OkL, OkI, PfHas, fnN]
    repeat' apply And.intro
    all_goals first | trivial | exact (fr_list g)
theorem law_fd (c : SaysP fns look K) : ∃ fd : FuncData, FunD K d_law.name d_law.qual d_law.params d_law.body d_law.scope [] [] (He.fAd K d_law.at_) fd ∧ ∀ (s : Shared) (u : Value), BindsTo s fd ⟨[u], []⟩ [("_law_script", u)] := by
  obtain ⟨fd, F⟩ := c.def_ 18 (d := d_law) rfl
  have F' : FunD K d_law.name d_law.qual d_law.params d_law.body d_law.scope [] [] (He.fAd K d_law.at_) fd := F
  refine ⟨fd, F', fun s u => ?_⟩
  obtain ⟨oc, od, dV, kV, doc, pm, an, cdv, ct, osl, rfl, lk, hcd, hD, hK⟩ := F'.ex
  rcases hD with ⟨_, rfl⟩ | ⟨e, _⟩
  · exact .of_eq rfl
  · exact absurd rfl e
theorem law_ok (g : Gd w mg mb h base K) {fd : FuncData} (F' : FunD K d_law.name d_law.qual d_law.params d_law.body d_law.scope [] [] (He.fAd K d_law.at_) fd) : FnOk RW.prog w K mg base (L2.CX RW.prog w) 67 (He.fAd K d_law.at_) fd ["_law_script"] (spOf K mg ⟨[false], mLaw⟩) := by
  refine fn_ok (km := 66) (N := ["_law_script", "_law_state", "_law_index_here", "_law_root", "_law_start_here", "_law_good", "_law_number", "_law_n", "_law_due", "_law_top", "_law_bottom", "_law_k", "_law_far", "_law_told", "_law_step"]) (b := b_law) F' (C8.fnScope_by (by decide +kernel)) rfl (by decide) (seer g) tree (by decide +kernel) ?_ hm_law
  · simp only [b_law, OkSs, OkS, OkE, OkL, OkI, PfHas, fnN]
    repeat' apply And.intro
    all_goals first | trivial | exact (hF_L_same8 g _ (by decide)) | exact (hF_factor g _ (by decide)) | exact (hF_L_times g _ (by decide)) | exact (hF_L_low g _ (by decide)) | exact (hF_L_is_fraction g _ (by decide)) | exact (hF_L_big g _ (by decide)) | exact (hF_L_asked g _ (by decide)) | exact (hF_L_is_int g _ (by decide)) | exact (hF_L_pull g _ (by decide)) | exact (hF_L_index g _ (by decide)) | exact (hF_L_start g _ (by decide)) | exact (fr_range g)
theorem law_at (X : K.In h) (c : SaysP fns look K) (G : h.Ns mainGlobals mg) : mg "law" = some (.ref (He.fAd K d_law.at_)) := by
  have e := c.p
  unfold look at e
  exact PySem.W.mg_of X G (He.eqO_ok (show gloB K "law" = true by
    simp only [Bool.and_eq_true] at e
    exact e.2.2.2.2.2.2.2.2.2.2.2.2.2.2.2.2.2.1))
end
end HdT
open PySem PySem.W PySem.Calls PyProof.Rows
theorem PySem.Challenge.cw_pageshares_k43_factors_holds : PySem.Challenge.rw_pageshares_k43_factors.Holds := by
  w_on; o_law
  refine HandSHeadRun.head_imp (r := OpenLaw.row PySem.Challenge.rw_pageshares_k43_factors) (q := view (OpenLaw.row PySem.Challenge.rw_pageshares_k43_factors).prog [0, 29]) (H := HdT.hk) (ob := HdT.obs1) (M := 100000) (loose := HdT.loose) (d := HandSHeadRun.topDef (OpenLaw.row PySem.Challenge.rw_pageshares_k43_factors).prog 29) (kwd := []) HdT.obs1_eq
    HdT.run (by kernel_rfl) (by kernel_rfl) (by kernel_rfl) (by rfl) (by first | assumption | decide +kernel) (by decide +kernel) ⟨rfl, rfl, rfl, rfl, rfl, by decide +kernel⟩ ?hw ?hc
  case hw => w_witness2
  case hc =>
    refine Pv.walk_P (x := "_law_script") (k := 67) rfl rfl ⟨by decide, by decide, by decide⟩ fun w mg mb fa h K X c G B bi hm => ?_
    obtain ⟨fd, F, hb⟩ := HdT.law_fd c
    have hfa := (HdT.law_at X c G).symm.trans hm
    cases hfa
    exact ⟨fd, hb, fun base Y Gb => HdT.law_ok ⟨X, c, G, B, bi, Y, Gb⟩ F⟩

