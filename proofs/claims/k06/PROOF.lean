import PyProof.Rows.All
import Wide.All
import OpenK.AllK
import Wide.FinOn
import HandS.ForMost
import HandS.ForExc
import HandS.CallSlots
import HandS.Gcd
import HandS.IsInst
import HandS.Wide
import HandS.Zip
import KE.SortData
import HandS.Comp
import PyProof.DictStraight
import HandS.SetBool
import HandS.TupSets
import HandS.More
import HandS.Defaults
import KE.KExcInit
import HandS.ExcField
import HandS.ExcIs
import HandS.ExcInit
import KE.KExcIs
import KE.KStateDown
import HandS.Head0
import HandS.Head1
import HandS.Head2
import HandS.Head3
import HandS.HeadEnd
import HandS.EndBits
import HandS.HeadHook1
import HandS.HeadHook2
import Lean
import HandS.Codes
import PySem.Challenge.RW_pageshares_k06_matrix_of_a_book
set_option Elab.async false
set_option linter.all false
set_option maxRecDepth 100000
set_option maxHeartbeats 0
set_option maxHeartbeats 1000000
/-! data of a program's values, and how they lie in the abstract heap -/
namespace Pv
open PySem PySem.Spec PyProof.Rows L2

/-- a value as data; a list's flag: true where it is reached from one place alone, and may be changed there -/
inductive D where
  | un
  | non
  | bl (b : Bool)
  | int (i : Int)
  | str (s : Str)
  | tup (xs : List D)
  | lst (o : Bool) (xs : List D)
  | obj (o : Bool) (C : Str) (ns : List Str) (xs : List D)

abbrev FP := Addr → Prop
abbrev Fr := PySem.W.Frag

mutual
/-- all flags down -/
def fz : D → D
  | .tup xs => .tup (fzs xs)
  | .lst _ xs => .lst false (fzs xs)
  | .obj _ C ns xs => .obj false C ns (fzs xs)
  | d => d
def fzs : List D → List D
  | [] => []
  | d :: ds => fz d :: fzs ds
end
mutual
/-- no flag up -/
def isFz : D → Bool
  | .tup xs => isFzs xs
  | .lst o xs => !o && isFzs xs
  | .obj o _ _ xs => !o && isFzs xs
  | _ => true
def isFzs : List D → Bool
  | [] => true
  | d :: ds => isFz d && isFzs ds
end
mutual
/-- every list and object is of its own -/
def isOwn : D → Bool
  | .tup xs => isOwns xs
  | .lst o xs => o && isOwns xs
  | .obj o _ _ xs => o && isOwns xs
  | _ => true
def isOwns : List D → Bool
  | [] => true
  | d :: ds => isOwn d && isOwns ds
end

mutual
/-- v is d, where G is the part of the heap that stays; fp: where the lists lie that are its own -/
def Rep (K : Fr) (mg : Str → Option Value) (G H : Hp) : D → V → FP → Prop
  | .un, _, fp => ∀ a, ¬ fp a
  | .non, v, fp => v = .non ∧ ∀ a, ¬ fp a
  | .bl b, v, fp => v = .bl b ∧ ∀ a, ¬ fp a
  | .int i, v, fp => v = .int i ∧ ∀ a, ¬ fp a
  | .str s, v, fp => v = .str s ∧ ∀ a, ¬ fp a
  | .tup xs, v, fp => ∃ a vs, v = .ref a ∧ SqT K H a vs ∧ Reps K mg G H xs vs fp
  | .lst true xs, v, fp => ∃ a vs fp', v = .ref a ∧ H a = some (.lst vs) ∧ Reps K mg G H xs vs fp' ∧ ¬ fp' a ∧ ∀ b, fp b ↔ (b = a ∨ fp' b)
  | .lst false xs, v, fp => ∃ a vs, v = .ref a ∧ SqL K G a vs ∧ Reps K mg G H xs vs fp ∧ ∀ b, ¬ fp b
  | .obj true C ns xs, v, fp => ∃ a Ca dx fs fp', v = .ref a ∧ mg C = some (.ref Ca) ∧ H a = some (.ins Ca dx fs) ∧ fs.map (·.1) = ns ∧ Reps K mg G H xs (fs.map (·.2)) fp' ∧ ¬ fp' a ∧ ∀ b, fp b ↔ (b = a ∨ fp' b)
  | .obj false C ns xs, v, fp => ∃ a Ca dx fs, v = .ref a ∧ mg C = some (.ref Ca) ∧ G a = some (.ins Ca dx fs) ∧ fs.map (·.1) = ns ∧ Reps K mg G H xs (fs.map (·.2)) fp ∧ ∀ b, ¬ fp b
def Reps (K : Fr) (mg : Str → Option Value) (G H : Hp) : List D → List V → FP → Prop
  | [], [], fp => ∀ a, ¬ fp a
  | d :: ds, v :: vs, fp => ∃ f1 f2 : FP, Rep K mg G H d v f1 ∧ Reps K mg G H ds vs f2 ∧ (∀ a, f1 a → ¬ f2 a) ∧ ∀ a, fp a ↔ (f1 a ∨ f2 a)
  | [], _ :: _, _ => False
  | _ :: _, [], _ => False
end

section
variable {K : Fr} {mg : Str → Option Value} {G G' H H' : Hp}

theorem reps_len : ∀ {ds : List D} {vs : List V} {fp : FP}, Reps K mg G H ds vs fp → ds.length = vs.length
  | [], [], _, _ => rfl
  | d :: ds, v :: vs, _, h => by
    simp only [Reps] at h
    obtain ⟨_, _, _, h, _⟩ := h
    simp [reps_len h]
  | [], _ :: _, _, h => by simp only [Reps] at h
  | _ :: _, [], _, h => by simp only [Reps] at h

mutual
/-- what is kept where the heap grows -/
theorem rep_mono (hg : ∀ a o, G a = some o → G' a = some o) (ht : ∀ a vs, SqT K H a vs → SqT K H' a vs) : ∀ (d : D) {v : V} {fp : FP}, (∀ a o, fp a → H a = some o → H' a = some o) → Rep K mg G H d v fp → Rep K mg G' H' d v fp
  | .un, v, fp, hh, h => by simpa only [Rep] using h
  | .non, v, fp, hh, h => by simpa only [Rep] using h
  | .bl b, v, fp, hh, h => by simpa only [Rep] using h
  | .int i, v, fp, hh, h => by simpa only [Rep] using h
  | .str s, v, fp, hh, h => by simpa only [Rep] using h
  | .tup xs, v, fp, hh, h => by
    simp only [Rep] at h ⊢
    obtain ⟨a, vs, e, h1, h2⟩ := h
    exact ⟨a, vs, e, ht _ _ h1, reps_mono hg ht xs hh h2⟩
  | .lst true xs, v, fp, hh, h => by
    simp only [Rep] at h ⊢
    obtain ⟨a, vs, fp', e, h1, h2, h3, h4⟩ := h
    exact ⟨a, vs, fp', e, hh a _ ((h4 a).2 (.inl rfl)) h1, reps_mono hg ht xs (fun b o hb => hh b o ((h4 b).2 (.inr hb))) h2, h3, h4⟩
  | .lst false xs, v, fp, hh, h => by
    simp only [Rep] at h ⊢
    obtain ⟨a, vs, e, h1, h2, h3⟩ := h
    refine ⟨a, vs, e, ?_, reps_mono hg ht xs hh h2, h3⟩
    rcases h1 with (h1 | ⟨o, h1⟩) | h1
    · exact .inl (.inl (hg _ _ h1))
    · exact .inl (.inr ⟨o, hg _ _ h1⟩)
    · exact .inr h1
  | .obj true C ns xs, v, fp, hh, h => by
    simp only [Rep] at h ⊢
    obtain ⟨a, Ca, dx, fs, fp', e, hc, h1, hn, h2, h3, h4⟩ := h
    exact ⟨a, Ca, dx, fs, fp', e, hc, hh a _ ((h4 a).2 (.inl rfl)) h1, hn, reps_mono hg ht xs (fun b o hb => hh b o ((h4 b).2 (.inr hb))) h2, h3, h4⟩
  | .obj false C ns xs, v, fp, hh, h => by
    simp only [Rep] at h ⊢
    obtain ⟨a, Ca, dx, fs, e, hc, h1, hn, h2, h3⟩ := h
    exact ⟨a, Ca, dx, fs, e, hc, hg _ _ h1, hn, reps_mono hg ht xs hh h2, h3⟩
theorem reps_mono (hg : ∀ a o, G a = some o → G' a = some o) (ht : ∀ a vs, SqT K H a vs → SqT K H' a vs) : ∀ (ds : List D) {vs : List V} {fp : FP}, (∀ a o, fp a → H a = some o → H' a = some o) → Reps K mg G H ds vs fp → Reps K mg G' H' ds vs fp
  | [], [], fp, hh, h => by simpa only [Reps] using h
  | d :: ds, v :: vs, fp, hh, h => by
    simp only [Reps] at h ⊢
    obtain ⟨f1, f2, h1, h2, h3, h4⟩ := h
    exact ⟨f1, f2, rep_mono hg ht d (fun a o ha => hh a o ((h4 a).2 (.inl ha))) h1, reps_mono hg ht ds (fun a o ha => hh a o ((h4 a).2 (.inr ha))) h2, h3, h4⟩
  | [], _ :: _, _, _, h => by simp only [Reps] at h
  | _ :: _, [], _, _, h => by simp only [Reps] at h
end

mutual
/-- the flags down: what was its own is now part of what stays -/
theorem rep_fz (hg : ∀ a o, G a = some o → G' a = some o) : ∀ (d : D) {v : V} {fp : FP}, (∀ a o, fp a → H a = some o → G' a = some o) → Rep K mg G H d v fp → Rep K mg G' H (fz d) v (fun _ => False)
  | .un, v, fp, hh, h => by simp [fz, Rep]
  | .non, v, fp, hh, h => by simp only [Rep, fz] at h ⊢; exact ⟨h.1, fun _ z => z⟩
  | .bl b, v, fp, hh, h => by simp only [Rep, fz] at h ⊢; exact ⟨h.1, fun _ z => z⟩
  | .int i, v, fp, hh, h => by simp only [Rep, fz] at h ⊢; exact ⟨h.1, fun _ z => z⟩
  | .str s, v, fp, hh, h => by simp only [Rep, fz] at h ⊢; exact ⟨h.1, fun _ z => z⟩
  | .tup xs, v, fp, hh, h => by
    simp only [Rep, fz] at h ⊢
    obtain ⟨a, vs, e, h1, h2⟩ := h
    exact ⟨a, vs, e, h1, reps_fz hg xs hh h2⟩
  | .lst true xs, v, fp, hh, h => by
    simp only [Rep, fz] at h ⊢
    obtain ⟨a, vs, fp', e, h1, h2, h3, h4⟩ := h
    exact ⟨a, vs, e, .inl (.inl (hh a _ ((h4 a).2 (.inl rfl)) h1)), reps_fz hg xs (fun b o hb => hh b o ((h4 b).2 (.inr hb))) h2, fun _ z => z⟩
  | .lst false xs, v, fp, hh, h => by
    simp only [Rep, fz] at h ⊢
    obtain ⟨a, vs, e, h1, h2, h3⟩ := h
    refine ⟨a, vs, e, ?_, reps_fz hg xs hh h2, fun _ z => z⟩
    rcases h1 with (h1 | ⟨o, h1⟩) | h1
    · exact .inl (.inl (hg _ _ h1))
    · exact .inl (.inr ⟨o, hg _ _ h1⟩)
    · exact .inr h1
  | .obj true C ns xs, v, fp, hh, h => by
    simp only [Rep, fz] at h ⊢
    obtain ⟨a, Ca, dx, fs, fp', e, hc, h1, hn, h2, h3, h4⟩ := h
    exact ⟨a, Ca, dx, fs, e, hc, hh a _ ((h4 a).2 (.inl rfl)) h1, hn, reps_fz hg xs (fun b o hb => hh b o ((h4 b).2 (.inr hb))) h2, fun _ z => z⟩
  | .obj false C ns xs, v, fp, hh, h => by
    simp only [Rep, fz] at h ⊢
    obtain ⟨a, Ca, dx, fs, e, hc, h1, hn, h2, h3⟩ := h
    exact ⟨a, Ca, dx, fs, e, hc, hg _ _ h1, hn, reps_fz hg xs hh h2, fun _ z => z⟩
theorem reps_fz (hg : ∀ a o, G a = some o → G' a = some o) : ∀ (ds : List D) {vs : List V} {fp : FP}, (∀ a o, fp a → H a = some o → G' a = some o) → Reps K mg G H ds vs fp → Reps K mg G' H (fzs ds) vs (fun _ => False)
  | [], [], fp, hh, h => by simp [Reps, fzs]
  | d :: ds, v :: vs, fp, hh, h => by
    simp only [Reps, fzs] at h ⊢
    obtain ⟨f1, f2, h1, h2, h3, h4⟩ := h
    exact ⟨fun _ => False, fun _ => False, rep_fz hg d (fun a o ha => hh a o ((h4 a).2 (.inl ha))) h1, reps_fz hg ds (fun a o ha => hh a o ((h4 a).2 (.inr ha))) h2, fun _ z => z.elim, fun _ => by simp⟩
  | [], _ :: _, _, _, h => by simp only [Reps] at h
  | _ :: _, [], _, _, h => by simp only [Reps] at h
end

mutual
/-- no flags up: no place of its own -/
theorem rep_emp : ∀ (d : D) {v : V} {fp : FP}, isFz d = true → Rep K mg G H d v fp → ∀ a, ¬ fp a
  | .un, v, fp, e, h => by simpa only [Rep] using h
  | .non, v, fp, e, h => by simp only [Rep] at h; exact h.2
  | .bl b, v, fp, e, h => by simp only [Rep] at h; exact h.2
  | .int i, v, fp, e, h => by simp only [Rep] at h; exact h.2
  | .str s, v, fp, e, h => by simp only [Rep] at h; exact h.2
  | .tup xs, v, fp, e, h => by
    simp only [Rep, isFz] at h e
    obtain ⟨a, vs, _, h1, h2⟩ := h
    exact reps_emp xs e h2
  | .lst true xs, v, fp, e, h => by simp [isFz] at e
  | .lst false xs, v, fp, e, h => by
    simp only [Rep] at h
    obtain ⟨a, vs, _, _, _, h3⟩ := h
    exact h3
  | .obj true C ns xs, v, fp, e, h => by simp [isFz] at e
  | .obj false C ns xs, v, fp, e, h => by
    simp only [Rep] at h
    obtain ⟨a, Ca, dx, fs, _, _, _, _, _, h3⟩ := h
    exact h3
theorem reps_emp : ∀ (ds : List D) {vs : List V} {fp : FP}, isFzs ds = true → Reps K mg G H ds vs fp → ∀ a, ¬ fp a
  | [], [], fp, e, h => by simpa only [Reps] using h
  | d :: ds, v :: vs, fp, e, h => by
    simp only [Reps, isFzs, Bool.and_eq_true] at h e
    obtain ⟨f1, f2, h1, h2, h3, h4⟩ := h
    intro a ha
    rcases (h4 a).1 ha with z | z
    · exact rep_emp d e.1 h1 a z
    · exact reps_emp ds e.2 h2 a z
  | [], _ :: _, _, _, h => by simp only [Reps] at h
  | _ :: _, [], _, _, h => by simp only [Reps] at h
end

mutual
theorem isFz_fz : ∀ d : D, isFz (fz d) = true
  | .un => rfl
  | .non => rfl
  | .bl _ => rfl
  | .int _ => rfl
  | .str _ => rfl
  | .tup xs => by simp only [fz, isFz]; exact isFzs_fzs xs
  | .lst _ xs => by simp only [fz, isFz]; simp [isFzs_fzs xs]
  | .obj _ _ _ xs => by simp only [fz, isFz]; simp [isFzs_fzs xs]
theorem isFzs_fzs : ∀ ds : List D, isFzs (fzs ds) = true
  | [] => rfl
  | d :: ds => by simp only [fzs, isFzs, isFz_fz d, isFzs_fzs ds, Bool.and_self]
end
mutual
theorem fz_id : ∀ d : D, isFz d = true → fz d = d
  | .un, _ => rfl
  | .non, _ => rfl
  | .bl _, _ => rfl
  | .int _, _ => rfl
  | .str _, _ => rfl
  | .tup xs, h => by simp only [fz, isFz] at h ⊢; rw [fzs_id xs h]
  | .lst o xs, h => by
    simp only [fz, isFz, Bool.and_eq_true, Bool.not_eq_true'] at h ⊢
    rw [fzs_id xs h.2, h.1]
  | .obj o _ _ xs, h => by
    simp only [fz, isFz, Bool.and_eq_true, Bool.not_eq_true'] at h ⊢
    rw [fzs_id xs h.2, h.1]
theorem fzs_id : ∀ ds : List D, isFzs ds = true → fzs ds = ds
  | [], _ => rfl
  | d :: ds, h => by
    simp only [isFzs, Bool.and_eq_true] at h
    simp only [fzs]
    rw [fz_id d h.1, fzs_id ds h.2]
end
theorem fzs_map : ∀ ds : List D, fzs ds = ds.map fz
  | [] => rfl
  | d :: ds => by simp only [fzs, List.map_cons, fzs_map ds]
mutual
/-- where everything is its own, what stays doesn't matter -/
theorem rep_own : ∀ (d : D) {v : V} {fp : FP}, isOwn d = true → Rep K mg G H d v fp → Rep K mg G' H d v fp
  | .un, v, fp, e, h => by simpa only [Rep] using h
  | .non, v, fp, e, h => by simpa only [Rep] using h
  | .bl b, v, fp, e, h => by simpa only [Rep] using h
  | .int i, v, fp, e, h => by simpa only [Rep] using h
  | .str s, v, fp, e, h => by simpa only [Rep] using h
  | .tup xs, v, fp, e, h => by
    simp only [Rep, isOwn] at h e ⊢
    obtain ⟨a, vs, e1, h1, h2⟩ := h
    exact ⟨a, vs, e1, h1, reps_own xs e h2⟩
  | .lst true xs, v, fp, e, h => by
    simp only [Rep, isOwn, Bool.true_and] at h e ⊢
    obtain ⟨a, vs, fp', e1, h1, h2, h3, h4⟩ := h
    exact ⟨a, vs, fp', e1, h1, reps_own xs e h2, h3, h4⟩
  | .lst false xs, v, fp, e, h => by simp [isOwn] at e
  | .obj true C ns xs, v, fp, e, h => by
    simp only [Rep, isOwn, Bool.true_and] at h e ⊢
    obtain ⟨a, Ca, dx, fs, fp', e1, hc, h1, hn, h2, h3, h4⟩ := h
    exact ⟨a, Ca, dx, fs, fp', e1, hc, h1, hn, reps_own xs e h2, h3, h4⟩
  | .obj false C ns xs, v, fp, e, h => by simp [isOwn] at e
theorem reps_own : ∀ (ds : List D) {vs : List V} {fp : FP}, isOwns ds = true → Reps K mg G H ds vs fp → Reps K mg G' H ds vs fp
  | [], [], fp, e, h => by simpa only [Reps] using h
  | d :: ds, v :: vs, fp, e, h => by
    simp only [Reps, isOwns, Bool.and_eq_true] at h e ⊢
    obtain ⟨f1, f2, h1, h2, h3, h4⟩ := h
    exact ⟨f1, f2, rep_own d e.1 h1, reps_own ds e.2 h2, h3, h4⟩
  | [], _ :: _, _, _, h => by simp only [Reps] at h
  | _ :: _, [], _, _, h => by simp only [Reps] at h
end

mutual
/-- what is its own stands there -/
theorem rep_there : ∀ (d : D) {v : V} {fp : FP}, Rep K mg G H d v fp → ∀ a, fp a → (∃ xs, H a = some (.lst xs)) ∨ ∃ C dx fs, H a = some (.ins C dx fs)
  | .un, v, fp, h, a, ha => by simp only [Rep] at h; exact absurd ha (h a)
  | .non, v, fp, h, a, ha => by simp only [Rep] at h; exact absurd ha (h.2 a)
  | .bl b, v, fp, h, a, ha => by simp only [Rep] at h; exact absurd ha (h.2 a)
  | .int i, v, fp, h, a, ha => by simp only [Rep] at h; exact absurd ha (h.2 a)
  | .str s, v, fp, h, a, ha => by simp only [Rep] at h; exact absurd ha (h.2 a)
  | .tup xs, v, fp, h, a, ha => by
    simp only [Rep] at h
    obtain ⟨_, vs, _, h1, h2⟩ := h
    exact reps_there xs h2 a ha
  | .lst true xs, v, fp, h, a, ha => by
    simp only [Rep] at h
    obtain ⟨b, vs, fp', e, h1, h2, h3, h4⟩ := h
    rcases (h4 a).1 ha with z | z
    · subst z; exact .inl ⟨_, h1⟩
    · exact reps_there xs h2 a z
  | .lst false xs, v, fp, h, a, ha => by
    simp only [Rep] at h
    obtain ⟨b, vs, e, h1, h2, h3⟩ := h
    exact absurd ha (h3 a)
  | .obj true C ns xs, v, fp, h, a, ha => by
    simp only [Rep] at h
    obtain ⟨b, Ca, dx, fs, fp', e, hc, h1, hn, h2, h3, h4⟩ := h
    rcases (h4 a).1 ha with z | z
    · subst z; exact .inr ⟨_, _, _, h1⟩
    · exact reps_there xs h2 a z
  | .obj false C ns xs, v, fp, h, a, ha => by
    simp only [Rep] at h
    obtain ⟨b, Ca, dx, fs, e, hc, h1, hn, h2, h3⟩ := h
    exact absurd ha (h3 a)
theorem reps_there : ∀ (ds : List D) {vs : List V} {fp : FP}, Reps K mg G H ds vs fp → ∀ a, fp a → (∃ xs, H a = some (.lst xs)) ∨ ∃ C dx fs, H a = some (.ins C dx fs)
  | [], [], fp, h, a, ha => by simp only [Reps] at h; exact absurd ha (h a)
  | d :: ds, v :: vs, fp, h, a, ha => by
    simp only [Reps] at h
    obtain ⟨f1, f2, h1, h2, h3, h4⟩ := h
    rcases (h4 a).1 ha with z | z
    · exact rep_there d h1 a z
    · exact reps_there ds h2 a z
  | [], _ :: _, _, h, _, _ => by simp only [Reps] at h
  | _ :: _, [], _, h, _, _ => by simp only [Reps] at h
end
end
end Pv

set_option maxHeartbeats 1000000
namespace Pv
open PySem PySem.Spec PyProof.Rows L2

section
variable {K : Fr} {mg : Str → Option Value} {G G' G1 G2 H H' H1 H2 : Hp} {fp fp' f1 f2 f3 : FP}

/-- the same places, said otherwise -/
theorem rep_iff {d : D} {v : V} (h : Rep K mg G H d v f1) (e : ∀ a, f1 a ↔ f2 a) : Rep K mg G H d v f2 := by
  have : f1 = f2 := funext fun a => propext (e a)
  rw [← this]; exact h
theorem reps_iff {ds : List D} {vs : List V} (h : Reps K mg G H ds vs f1) (e : ∀ a, f1 a ↔ f2 a) : Reps K mg G H ds vs f2 := by
  have : f1 = f2 := funext fun a => propext (e a)
  rw [← this]; exact h

/-- slots -/
def RepO (K : Fr) (mg : Str → Option Value) (G H : Hp) (d : D) (ov : Option V) (fp : FP) : Prop :=
  match ov with
  | some v => Rep K mg G H d v fp
  | none => d = .un ∧ ∀ a, ¬ fp a
def RepsO (K : Fr) (mg : Str → Option Value) (G H : Hp) : List D → List (Option V) → FP → Prop
  | [], [], fp => ∀ a, ¬ fp a
  | d :: ds, v :: vs, fp => ∃ f1 f2 : FP, RepO K mg G H d v f1 ∧ RepsO K mg G H ds vs f2 ∧ (∀ a, f1 a → ¬ f2 a) ∧ ∀ a, fp a ↔ (f1 a ∨ f2 a)
  | [], _ :: _, _ => False
  | _ :: _, [], _ => False
theorem repO_un {ov : Option V} (h : ∀ a, ¬ fp a) : RepO K mg G H .un ov fp := by
  cases ov with
  | none => exact ⟨rfl, h⟩
  | some v => simp only [RepO, Rep]; exact h
theorem repO_mono {d : D} {ov : Option V} (hg : ∀ a o, G a = some o → G' a = some o) (ht : ∀ a vs, SqT K H a vs → SqT K H' a vs) (hh : ∀ a o, fp a → H a = some o → H' a = some o) (h : RepO K mg G H d ov fp) : RepO K mg G' H' d ov fp := by
  cases ov with
  | none => exact h
  | some v => exact rep_mono hg ht d hh h
theorem repO_there {d : D} {ov : Option V} (h : RepO K mg G H d ov fp) : ∀ a, fp a → (∃ xs, H a = some (.lst xs)) ∨ ∃ C dx fs, H a = some (.ins C dx fs) := by
  cases ov with
  | none => exact fun a ha => absurd ha (h.2 a)
  | some v => exact rep_there d h
theorem repsO_len : ∀ {ds : List D} {vs : List (Option V)} {fp : FP}, RepsO K mg G H ds vs fp → ds.length = vs.length
  | [], [], _, _ => rfl
  | d :: ds, v :: vs, _, h => by
    obtain ⟨_, _, _, h, _⟩ := h
    simp [repsO_len h]
  | [], _ :: _, _, h => h.elim
  | _ :: _, [], _, h => h.elim
theorem repsO_iff {ds : List D} {vs : List (Option V)} (h : RepsO K mg G H ds vs f1) (e : ∀ a, f1 a ↔ f2 a) : RepsO K mg G H ds vs f2 := by
  have : f1 = f2 := funext fun a => propext (e a)
  rw [← this]; exact h
theorem repsO_mono (hg : ∀ a o, G a = some o → G' a = some o) (ht : ∀ a vs, SqT K H a vs → SqT K H' a vs) : ∀ {ds : List D} {vs : List (Option V)} {fp : FP}, (∀ a o, fp a → H a = some o → H' a = some o) → RepsO K mg G H ds vs fp → RepsO K mg G' H' ds vs fp
  | [], [], fp, hh, h => h
  | d :: ds, v :: vs, fp, hh, h => by
    obtain ⟨f1, f2, h1, h2, h3, h4⟩ := h
    exact ⟨f1, f2, repO_mono hg ht (fun a o ha => hh a o ((h4 a).2 (.inl ha))) h1, repsO_mono hg ht (fun a o ha => hh a o ((h4 a).2 (.inr ha))) h2, h3, h4⟩
  | [], _ :: _, _, _, h => h.elim
  | _ :: _, [], _, _, h => h.elim
theorem repsO_there : ∀ {ds : List D} {vs : List (Option V)} {fp : FP}, RepsO K mg G H ds vs fp → ∀ a, fp a → (∃ xs, H a = some (.lst xs)) ∨ ∃ C dx fs, H a = some (.ins C dx fs)
  | [], [], fp, h, a, ha => absurd ha (h a)
  | d :: ds, v :: vs, fp, h, a, ha => by
    obtain ⟨f1, f2, h1, h2, h3, h4⟩ := h
    rcases (h4 a).1 ha with z | z
    · exact repO_there h1 a z
    · exact repsO_there h2 a z
  | [], _ :: _, _, h, _, _ => h.elim
  | _ :: _, [], _, h, _, _ => h.elim
/-- one slot taken out -/
theorem repsO_take : ∀ {ds : List D} {vs : List (Option V)} {fp : FP} {s : Nat} {d : D} {ov : Option V}, RepsO K mg G H ds vs fp → ds[s]? = some d → vs[s]? = some ov →
    ∃ f1 f2 : FP, RepO K mg G H d ov f1 ∧ RepsO K mg G H (ds.set s .un) vs f2 ∧ (∀ a, f1 a → ¬ f2 a) ∧ ∀ a, fp a ↔ (f1 a ∨ f2 a)
  | d :: ds, v :: vs, fp, 0, _, _, h, e1, e2 => by
    cases e1; cases e2
    obtain ⟨f1, f2, h1, h2, h3, h4⟩ := h
    refine ⟨f1, f2, h1, ⟨fun _ => False, f2, repO_un fun _ z => z, h2, fun _ z => z.elim, fun a => by simp⟩, h3, h4⟩
  | d :: ds, v :: vs, fp, s + 1, d', ov, h, e1, e2 => by
    obtain ⟨f1, f2, h1, h2, h3, h4⟩ := h
    obtain ⟨g1, g2, k1, k2, k3, k4⟩ := repsO_take (s := s) h2 (by simpa using e1) (by simpa using e2)
    refine ⟨g1, fun a => f1 a ∨ g2 a, k1, ⟨f1, g2, h1, k2, fun a ha hb => h3 a ha ((k4 a).2 (.inr hb)), fun _ => Iff.rfl⟩, fun a ha hb => ?_, fun a => ?_⟩
    · rcases hb with hb | hb
      · exact h3 a hb ((k4 a).2 (.inl ha))
      · exact k3 a ha hb
    · rw [h4 a, k4 a]
      constructor
      · rintro (z | z | z)
        · exact .inr (.inl z)
        · exact .inl z
        · exact .inr (.inr z)
      · rintro (z | z | z)
        · exact .inr (.inl z)
        · exact .inl z
        · exact .inr (.inr z)
  | [], _, _, _, _, _, _, e1, _ => by simp at e1
  | _ :: _, [], _, _, _, _, _, _, e2 => by simp at e2
/-- one slot put in; what stood there is dropped -/
theorem repsO_put : ∀ {ds : List D} {vs : List (Option V)} {f2 f1 : FP} {s : Nat} {d : D} {ov : Option V}, RepsO K mg G H ds vs f2 → RepO K mg G H d ov f1 → (∀ a, f1 a → ¬ f2 a) → s < ds.length →
    ∃ fp : FP, RepsO K mg G H (ds.set s d) (vs.set s ov) fp ∧ ∀ a, fp a → (f1 a ∨ f2 a)
  | e :: ds, v :: vs, f2, f1, 0, d, ov, h, h1, hd, _ => by
    obtain ⟨g1, g2, k1, k2, k3, k4⟩ := h
    exact ⟨fun a => f1 a ∨ g2 a, ⟨f1, g2, h1, k2, fun a ha hb => hd a ha ((k4 a).2 (.inr hb)), fun _ => Iff.rfl⟩, fun a z => z.imp id fun z => (k4 a).2 (.inr z)⟩
  | e :: ds, v :: vs, f2, f1, s + 1, d, ov, h, h1, hd, hs => by
    obtain ⟨g1, g2, k1, k2, k3, k4⟩ := h
    obtain ⟨fp, r1, r2⟩ := repsO_put (s := s) k2 h1 (fun a ha hb => hd a ha ((k4 a).2 (.inr hb))) (by simpa using hs)
    refine ⟨fun a => g1 a ∨ fp a, ⟨g1, fp, k1, r1, fun a ha hb => ?_, fun _ => Iff.rfl⟩, fun a z => ?_⟩
    · rcases r2 a hb with z | z
      · exact hd a z ((k4 a).2 (.inl ha))
      · exact k3 a ha z
    · rcases z with z | z
      · exact .inr ((k4 a).2 (.inl z))
      · exact (r2 a z).imp id fun z => (k4 a).2 (.inr z)
  | [], [], _, _, _, _, _, _, _, _, hs => by simp at hs
  | [], _ :: _, _, _, _, _, _, h, _, _, _ => h.elim
  | _ :: _, [], _, _, _, _, _, h, _, _, _ => h.elim

/-- the state: temporaries, slots -/
structure R (K : Fr) (mg : Str → Option Value) (G H : Hp) (ts : List D) (tv : List V) (rs : List D) (sg : L2.St) (fp : FP) : Prop where
  ex : ∃ ft fs : FP, Reps K mg G H ts tv ft ∧ RepsO K mg G H rs sg fs ∧ (∀ a, ft a → ¬ fs a) ∧ ∀ a, fp a ↔ (ft a ∨ fs a)
  sub : ∀ a o, G a = some o → H a = some o ∧ ¬ fp a
/-- from a state to a later one -/
structure Step (K : Fr) (G H : Hp) (fp : FP) (G' H' : Hp) (fp' : FP) : Prop where
  keep : ∀ a o, H a = some o → ¬ fp a → H' a = some o
  tups : ∀ a vs, SqT K H a vs → SqT K H' a vs
  new : ∀ a, fp' a → H a = none ∨ fp a
  grow : ∀ a o, G a = some o → G' a = some o
  lim : ∀ a o, G' a = some o → G a = some o ∨ H a = none ∨ fp a
theorem Step.refl : Step K G H fp G H fp := ⟨fun _ _ h _ => h, fun _ _ h => h, fun _ h => .inr h, fun _ _ h => h, fun _ _ h => .inl h⟩
theorem Step.less (h : ∀ a, fp' a → fp a) : Step K G H fp G H fp' := ⟨fun _ _ h _ => h, fun _ _ h => h, fun a z => .inr (h a z), fun _ _ h => h, fun _ _ h => .inl h⟩
theorem Step.trans (x : Step K G H fp G1 H1 f1) (y : Step K G1 H1 f1 G2 H2 f2) : Step K G H fp G2 H2 f2 := by
  have key : ∀ a, H1 a = none → H a = none ∨ fp a := fun a z => by
    cases e : H a with
    | none => exact .inl rfl
    | some o =>
      by_cases p : fp a
      · exact .inr p
      · rw [x.keep a o e p] at z; cases z
  refine ⟨fun a o h n => ?_, fun a vs h => y.tups a vs (x.tups a vs h), fun a z => ?_, fun a o h => y.grow a o (x.grow a o h), fun a o h => ?_⟩
  · refine y.keep a o (x.keep a o h n) fun z => ?_
    rcases x.new a z with q | q
    · rw [h] at q; cases q
    · exact n q
  · rcases y.new a z with q | q
    · exact key a q
    · exact x.new a q
  · rcases y.lim a o h with q | q | q
    · exact x.lim a o q
    · exact .inr (key a q)
    · exact .inr (x.new a q)
theorem Step.of_none (x : Step K G H fp G1 H1 f1) (a : Addr) (z : H1 a = none) : H a = none ∨ fp a := by
  cases e : H a with
  | none => exact .inl rfl
  | some o =>
    by_cases p : fp a
    · exact .inr p
    · rw [x.keep a o e p] at z; cases z

variable {ts : List D} {tv : List V} {rs : List D} {sg : L2.St} {d : D} {v : V}
theorem R.len (r : R K mg G H ts tv rs sg fp) : rs.length = sg.length := let ⟨_, _, _, h, _⟩ := r.ex; repsO_len h
theorem R.tlen (r : R K mg G H ts tv rs sg fp) : ts.length = tv.length := let ⟨_, _, h, _⟩ := r.ex; reps_len h
theorem R.there (r : R K mg G H ts tv rs sg fp) : ∀ a, fp a → (∃ xs, H a = some (.lst xs)) ∨ ∃ C dx fs, H a = some (.ins C dx fs) := fun a ha => by
  obtain ⟨ft, fs, h1, h2, h3, h4⟩ := r.ex
  rcases (h4 a).1 ha with z | z
  · exact reps_there ts h1 a z
  · exact repsO_there h2 a z
/-- the top one, apart -/
theorem R.top (r : R K mg G H (d :: ts) (v :: tv) rs sg fp) : ∃ f1 f2 : FP, Rep K mg G H d v f1 ∧ R K mg G H ts tv rs sg f2 ∧ (∀ a, f1 a → ¬ f2 a) ∧ ∀ a, fp a ↔ (f1 a ∨ f2 a) := by
  obtain ⟨⟨ft, fs, h1, h2, h3, h4⟩, sub⟩ := r
  simp only [Reps] at h1
  obtain ⟨g1, g2, k1, k2, k3, k4⟩ := h1
  refine ⟨g1, fun a => g2 a ∨ fs a, k1, ⟨⟨g2, fs, k2, h2, fun a ha => h3 a ((k4 a).2 (.inr ha)), fun _ => Iff.rfl⟩, fun a o e => ⟨(sub a o e).1, fun z => (sub a o e).2 ?_⟩⟩, fun a ha hb => ?_, fun a => ?_⟩
  · rcases z with z | z
    · exact (h4 a).2 (.inl ((k4 a).2 (.inr z)))
    · exact (h4 a).2 (.inr z)
  · rcases hb with hb | hb
    · exact k3 a ha hb
    · exact h3 a ((k4 a).2 (.inl ha)) hb
  · rw [h4 a, k4 a]
    constructor
    · rintro ((z | z) | z)
      · exact .inl z
      · exact .inr (.inl z)
      · exact .inr (.inr z)
    · rintro (z | z | z)
      · exact .inl (.inl z)
      · exact .inl (.inr z)
      · exact .inr z
/-- .. and laid on -/
theorem R.push (r : R K mg G H ts tv rs sg f2) (h : Rep K mg G H d v f1) (dj : ∀ a, f1 a → ¬ f2 a) (hg : ∀ a o, G a = some o → ¬ f1 a) : R K mg G H (d :: ts) (v :: tv) rs sg (fun a => f1 a ∨ f2 a) := by
  obtain ⟨⟨ft, fs, h1, h2, h3, h4⟩, sub⟩ := r
  refine ⟨⟨fun a => f1 a ∨ ft a, fs, ?_, h2, fun a ha hb => ?_, fun a => ?_⟩, fun a o e => ⟨(sub a o e).1, fun z => z.elim (hg a o e) (sub a o e).2⟩⟩
  · simp only [Reps]
    exact ⟨f1, ft, h, h1, fun a ha hb => dj a ha ((h4 a).2 (.inl hb)), fun _ => Iff.rfl⟩
  · rcases ha with ha | ha
    · exact dj a ha ((h4 a).2 (.inr hb))
    · exact h3 a ha hb
  · rw [h4 a, or_assoc]
theorem R.iff (r : R K mg G H ts tv rs sg f1) (e : ∀ a, f1 a ↔ f2 a) : R K mg G H ts tv rs sg f2 := by
  have : f1 = f2 := funext fun a => propext (e a)
  rw [← this]; exact r
/-- a value without places of its own is laid on -/
theorem R.pushE (r : R K mg G H ts tv rs sg fp) (h : Rep K mg G H d v (fun _ => False)) : R K mg G H (d :: ts) (v :: tv) rs sg fp :=
  (r.push h (fun _ z => z.elim) fun _ _ _ z => z).iff fun a => by simp
theorem R.drop (r : R K mg G H (d :: ts) (v :: tv) rs sg fp) : ∃ fp' : FP, R K mg G H ts tv rs sg fp' ∧ Step K G H fp G H fp' := by
  obtain ⟨f1, f2, _, r2, _, e⟩ := r.top
  exact ⟨f2, r2, .less fun a z => (e a).2 (.inr z)⟩
/-- a slot's value, taken onto the pile -/
theorem R.take {s : Nat} (r : R K mg G H ts tv rs sg fp) (e1 : rs[s]? = some d) (e2 : sg[s]? = some (some v)) : R K mg G H (d :: ts) (v :: tv) (rs.set s .un) sg fp := by
  obtain ⟨⟨ft, fs, h1, h2, h3, h4⟩, sub⟩ := r
  obtain ⟨g1, g2, k1, k2, k3, k4⟩ := repsO_take h2 e1 e2
  refine ⟨⟨fun a => g1 a ∨ ft a, g2, ?_, k2, fun a ha hb => ?_, fun a => ?_⟩, sub⟩
  · simp only [Reps]
    exact ⟨g1, ft, k1, h1, fun a ha hb => h3 a hb ((k4 a).2 (.inl ha)), fun _ => Iff.rfl⟩
  · rcases ha with ha | ha
    · exact k3 a ha hb
    · exact h3 a ha ((k4 a).2 (.inr hb))
  · rw [h4 a, k4 a]
    constructor
    · rintro (z | z | z)
      · exact .inl (.inr z)
      · exact .inl (.inl z)
      · exact .inr z
    · rintro ((z | z) | z)
      · exact .inr (.inl z)
      · exact .inl z
      · exact .inr (.inr z)
/-- .. put into a slot -/
theorem R.put {s : Nat} (r : R K mg G H (d :: ts) (v :: tv) rs sg fp) (hs : s < rs.length) : ∃ fp' : FP, R K mg G H ts tv (rs.set s d) (sg.set s (some v)) fp' ∧ Step K G H fp G H fp' := by
  obtain ⟨⟨ft, fs, h1, h2, h3, h4⟩, sub⟩ := r
  simp only [Reps] at h1
  obtain ⟨g1, g2, k1, k2, k3, k4⟩ := h1
  obtain ⟨fq, q1, q2⟩ := repsO_put (ov := some v) h2 k1 (fun a ha => h3 a ((k4 a).2 (.inl ha))) hs
  have hle : ∀ a, g2 a ∨ fq a → fp a := fun a z => by
    rcases z with z | z
    · exact (h4 a).2 (.inl ((k4 a).2 (.inr z)))
    · rcases q2 a z with z | z
      · exact (h4 a).2 (.inl ((k4 a).2 (.inl z)))
      · exact (h4 a).2 (.inr z)
  refine ⟨fun a => g2 a ∨ fq a, ⟨⟨g2, fq, k2, q1, fun a ha hb => ?_, fun _ => Iff.rfl⟩, fun a o e => ⟨(sub a o e).1, fun z => (sub a o e).2 (hle a z)⟩⟩, .less hle⟩
  rcases q2 a hb with z | z
  · exact k3 a z ha
  · exact h3 a ((k4 a).2 (.inr ha)) z
theorem set_same {α : Type} {l : List α} {s : Nat} {x : α} (h : l[s]? = some x) : l.set s x = l := by
  apply List.ext_getElem?
  intro i
  by_cases e : s = i
  · subst e
    rw [List.getElem?_set_self (List.getElem?_eq_some_iff.mp h).1, h]
  · rw [List.getElem?_set_ne e]
/-- back into its slot -/
theorem R.back {s : Nat} (r : R K mg G H (d :: ts) (v :: tv) rs sg fp) (e2 : sg[s]? = some (some v)) : ∃ fp' : FP, R K mg G H ts tv (rs.set s d) sg fp' ∧ Step K G H fp G H fp' := by
  obtain ⟨f, q, st⟩ := r.put (s := s) (by rw [r.len]; exact (List.getElem?_eq_some_iff.mp e2).1)
  rw [set_same e2] at q
  exact ⟨f, q, st⟩
/-- the top one's flags down -/
theorem R.fz (r : R K mg G H (d :: ts) (v :: tv) rs sg fp) : ∃ G' fp', R K mg G' H (fz d :: ts) (v :: tv) rs sg fp' ∧ Step K G H fp G' H fp' := by
  obtain ⟨f1, f2, h1, r2, dj, e⟩ := r.top
  let p : Addr → Prop := f1
  have hcl : ∃ G' : Hp, (∀ a o, G a = some o → G' a = some o) ∧ (∀ a o, f1 a → H a = some o → G' a = some o) ∧ ∀ a o, G' a = some o → G a = some o ∨ (f1 a ∧ H a = some o) := by
    refine ⟨fun a => @ite _ (f1 a) (Classical.propDecidable _) (H a) (G a), fun a o h => ?_, fun a o h1 h2 => ?_, fun a o h => ?_⟩
    · have n : ¬ f1 a := fun z => (r.sub a o h).2 ((e a).2 (.inl z))
      show (@ite _ (f1 a) (Classical.propDecidable _) (H a) (G a)) = some o
      rw [if_neg n]; exact h
    · show (@ite _ (f1 a) (Classical.propDecidable _) (H a) (G a)) = some o
      rw [if_pos h1]; exact h2
    · by_cases n : f1 a
      · have h' : (@ite _ (f1 a) (Classical.propDecidable _) (H a) (G a)) = some o := h
        rw [if_pos n] at h'
        exact .inr ⟨n, h'⟩
      · have h' : (@ite _ (f1 a) (Classical.propDecidable _) (H a) (G a)) = some o := h
        rw [if_neg n] at h'
        exact .inl h'
  obtain ⟨G', c1, c2, c3⟩ := hcl
  have r3 : R K mg G' H ts tv rs sg f2 := by
    obtain ⟨⟨ft, fs, k1, k2, k3, k4⟩, sub⟩ := r2
    refine ⟨⟨ft, fs, reps_mono c1 (fun _ _ h => h) ts (fun _ _ _ h => h) k1, repsO_mono c1 (fun _ _ h => h) (fun _ _ _ h => h) k2, k3, k4⟩, fun a o h => ?_⟩
    rcases c3 a o h with z | ⟨z, w⟩
    · exact sub a o z
    · exact ⟨w, dj a z⟩
  refine ⟨G', f2, r3.pushE (rep_fz c1 d c2 h1), ⟨fun _ _ h _ => h, fun _ _ h => h, fun a z => .inr ((e a).2 (.inr z)), c1, fun a o h => ?_⟩⟩
  rcases c3 a o h with z | ⟨z, w⟩
  · exact .inl z
  · exact .inr (.inr ((e a).2 (.inl z)))
/-- a frozen one twice -/
theorem R.dup (r : R K mg G H (d :: ts) (v :: tv) rs sg fp) (h : isFz d = true) : R K mg G H (d :: d :: ts) (v :: v :: tv) rs sg fp := by
  obtain ⟨f1, f2, h1, r2, dj, e⟩ := r.top
  have e1 : ∀ a, f1 a ↔ False := fun a => ⟨fun z => rep_emp d h h1 a z, fun z => z.elim⟩
  exact r.pushE (rep_iff h1 e1)
/-- the two upper ones change places -/
theorem R.swap {d2 : D} {v2 : V} (r : R K mg G H (d :: d2 :: ts) (v :: v2 :: tv) rs sg fp) : R K mg G H (d2 :: d :: ts) (v2 :: v :: tv) rs sg fp := by
  obtain ⟨f1, f2, h1, r2, dj, e⟩ := r.top
  obtain ⟨g1, g2, k1, r3, dj2, e2⟩ := r2.top
  have gs1 : ∀ a o, G a = some o → ¬ f1 a := fun a o h z => (r.sub a o h).2 ((e a).2 (.inl z))
  have gs2 : ∀ a o, G a = some o → ¬ g1 a := fun a o h z => (r2.sub a o h).2 ((e2 a).2 (.inl z))
  have r4 := r3.push h1 (fun a ha hb => dj a ha ((e2 a).2 (.inr hb))) gs1
  have r5 := r4.push k1 (fun a ha hb => by
    rcases hb with hb | hb
    · exact dj a hb ((e2 a).2 (.inl ha))
    · exact dj2 a ha hb) gs2
  refine r5.iff fun a => ?_
  rw [e a, e2 a]
  constructor
  · rintro (z | z | z)
    · exact .inr (.inl z)
    · exact .inl z
    · exact .inr (.inr z)
  · rintro (z | z | z)
    · exact .inr (.inl z)
    · exact .inl z
    · exact .inr (.inr z)
/-- a slot's value, frozen, without a change -/
theorem R.slot {s : Nat} (r : R K mg G H ts tv rs sg fp) (e1 : rs[s]? = some d) (e2 : sg[s]? = some (some v)) (hz : isFz d = true) : R K mg G H (d :: ts) (v :: tv) rs sg fp := by
  have r1 := (r.take e1 e2).dup hz
  obtain ⟨f1, f2, h1, r2, dj, e⟩ := r1.top
  have ef : ∀ a, f1 a ↔ False := fun a => ⟨fun z => rep_emp d hz h1 a z, fun z => z.elim⟩
  exact r.pushE (rep_iff h1 ef)
/-- a slot that is assigned has a value -/
theorem R.val {s : Nat} (r : R K mg G H ts tv rs sg fp) (e1 : rs[s]? = some d) (hd : d ≠ .un) : ∃ v, sg[s]? = some (some v) := by
  obtain ⟨ft, fs, h1, h2, h3, h4⟩ := r.ex
  have hs : s < sg.length := by rw [← r.len]; exact (List.getElem?_eq_some_iff.mp e1).1
  obtain ⟨g1, g2, k1, _⟩ := repsO_take h2 e1 (List.getElem?_eq_getElem hs)
  rw [List.getElem?_eq_getElem hs]
  cases q : sg[s] with
  | some v => exact ⟨v, rfl⟩
  | none =>
    rw [q] at k1
    exact absurd k1.1 hd
/-- a slot's value, frozen in its place -/
theorem R.slotFz {s : Nat} (r : R K mg G H ts tv rs sg fp) (e1 : rs[s]? = some d) (e2 : sg[s]? = some (some v)) : ∃ G' fp', R K mg G' H (Pv.fz d :: ts) (v :: tv) (rs.set s (Pv.fz d)) sg fp' ∧ Step K G H fp G' H fp' := by
  obtain ⟨G', f', r1, st1⟩ := (r.take e1 e2).fz
  obtain ⟨f'', r2, st2⟩ := (r1.dup (isFz_fz d)).back e2
  rw [List.set_set] at r2
  exact ⟨G', f'', r2, st1.trans st2⟩
/-- the whole heap as what stays: every value, frozen, to be looked at -/
theorem R.view {s : Nat} (r : R K mg G H ts tv rs sg fp) (e1 : rs[s]? = some d) (e2 : sg[s]? = some (some v)) : Rep K mg H H (Pv.fz d) v (fun _ => False) := by
  obtain ⟨f1, f2, h1, r2, dj, e⟩ := (r.take e1 e2).top
  exact rep_fz (fun a o h => (r.sub a o h).1) d (fun a o _ h => h) h1
theorem R.viewT (r : R K mg G H (d :: ts) (v :: tv) rs sg fp) : Rep K mg H H (Pv.fz d) v (fun _ => False) := by
  obtain ⟨f1, f2, h1, r2, dj, e⟩ := r.top
  exact rep_fz (fun a o h => (r.sub a o h).1) d (fun a o _ h => h) h1
end
end Pv

set_option maxHeartbeats 1000000
namespace Pv
open PySem PySem.Spec PyProof.Rows L2

/-! ### the small language -/
structure Exc where
  C : Str
  ns : List Str
  xs : List D
inductive Out where
  | ret (d : D) (outs : List D)
  | exc (x : Exc)
/-- a def by what it does: which parameters it changes in place; its answer -/
structure Fn where
  io : List Bool
  m : List D → Option Out
inductive P2 where | add | sub | mul | fdiv | mod | pow | lt | le | gt | ge | eq | ne | isn | notn
  deriving DecidableEq
inductive PF where | len | abs | min2 | max2 | minL | maxL | sum | any | all | int | gcd
  deriving DecidableEq

/- no list, no object within -/
mutual
def isSc : D → Bool
  | .tup xs => isScs xs
  | .lst _ _ => false
  | .obj _ _ _ _ => false
  | .un => false
  | _ => true
def isScs : List D → Bool
  | [] => true
  | d :: ds => isSc d && isScs ds
end
/- data that may be compared -/
mutual
def toPd : D → Option PyData
  | .non => some .none
  | .bl b => some (.bool b)
  | .int i => some (.int i)
  | .str s => some (.str s)
  | .tup xs => (toPds xs).map .tuple
  | .lst _ xs => (toPds xs).map .list
  | _ => none
def toPds : List D → Option (List PyData)
  | [] => some []
  | d :: ds => match toPd d, toPds ds with
    | some x, some xs => some (x :: xs)
    | _, _ => none
end
def mulOk (i j : Int) : Bool := decide (i.natAbs.log2 + j.natAbs.log2 < 100000000)
def powOk (i j : Int) : Bool := decide (0 ≤ j) && (decide (j ≤ 1000000) && decide (i.natAbs < 18446744073709551616))
def dEq (a b : D) : Option Bool := match toPd a, toPd b with
  | some x, some y => if SeqAt.shaped x && SeqAt.shaped y then some (PyData.eqv x y) else none
  | _, _ => none
def isNon : D → Bool
  | .non => true
  | _ => false
def d2 : P2 → D → D → Option D
  | .add, .int i, .int j => some (.int (i + j))
  | .sub, .int i, .int j => some (.int (i - j))
  | .mul, .int i, .int j => if mulOk i j then some (.int (i * j)) else none
  | .fdiv, .int i, .int j => if j = 0 then none else some (.int (i.fdiv j))
  | .mod, .int i, .int j => if j = 0 then none else some (.int (i.fmod j))
  | .pow, .int i, .int j => if powOk i j then some (.int (i ^ j.toNat)) else none
  | .lt, .int i, .int j => some (.bl (decide (i < j)))
  | .le, .int i, .int j => some (.bl (decide (i ≤ j)))
  | .gt, .int i, .int j => some (.bl (decide (j < i)))
  | .ge, .int i, .int j => some (.bl (decide (j ≤ i)))
  | .eq, .int i, .int j => some (.bl (decide (i = j)))
  | .ne, .int i, .int j => some (.bl (!decide (i = j)))
  | .eq, .str i, .str j => some (.bl (decide (i = j)))
  | .ne, .str i, .str j => some (.bl (!decide (i = j)))
  | .eq, .bl i, .bl j => some (.bl (decide (i = j)))
  | .ne, .bl i, .bl j => some (.bl (!decide (i = j)))
  | .eq, a, b => (dEq a b).map .bl
  | .ne, a, b => (dEq a b).map fun k => .bl (!k)
  | .isn, .un, _ => none
  | .isn, a, .non => some (.bl (isNon a))
  | .notn, .un, _ => none
  | .notn, a, .non => some (.bl (!isNon a))
  | _, _, _ => none
/-- the intsOf, the boolsOf of a list -/
def intsOf : List D → Option (List Int)
  | [] => some []
  | .int i :: ds => (intsOf ds).map (i :: ·)
  | _ => none
def boolsOf : List D → Option (List Bool)
  | [] => some []
  | .bl i :: ds => (boolsOf ds).map (i :: ·)
  | _ => none
def maxL : List Int → Int
  | [] => 0
  | a :: l => l.foldl (fun m x => if m < x then x else m) a
def minL : List Int → Int
  | [] => 0
  | a :: l => l.foldl (fun m x => if x < m then x else m) a
def dF : PF → List D → Option D
  | .len, [.lst _ xs] => some (.int xs.length)
  | .len, [.tup xs] => some (.int xs.length)
  | .abs, [.int i] => some (.int (if i < 0 then -i else i))
  | .min2, [.int i, .int j] => some (.int (if j < i then j else i))
  | .max2, [.int i, .int j] => some (.int (if j > i then j else i))
  | .minL, [.lst _ xs] => (intsOf xs).bind fun ns => if ns = [] then none else some (.int (minL ns))
  | .maxL, [.lst _ xs] => (intsOf xs).bind fun ns => if ns = [] then none else some (.int (maxL ns))
  | .sum, [.lst _ xs] => (intsOf xs).map fun ns => .int ns.sum
  | .any, [.lst _ xs] => (boolsOf xs).map fun ns => .bl (ns.any id)
  | .all, [.lst _ xs] => (boolsOf xs).map fun ns => .bl (ns.all id)
  | .int, [.int i] => some (.int i)
  | .int, [.bl k] => some (.int (if k then 1 else 0))
  | .gcd, [.int a, .int b] => some (.int ((Nat.gcd a.natAbs b.natAbs : Nat) : Int))
  | _, _ => none
/-- truth -/
def dT : D → Option Bool
  | .non => some false
  | .bl b => some b
  | .int i => some (i != 0)
  | .tup xs => some (!xs.isEmpty)
  | .lst _ xs => some (!xs.isEmpty)
  | _ => none
def tyName : D → Option String
  | .non => some "NoneType"
  | .bl _ => some "bool"
  | .int _ => some "int"
  | .str _ => some "str"
  | .tup _ => some "tuple"
  | .lst _ _ => some "list"
  | _ => none

section
variable {K : Fr} {mg : Str → Option Value} {G G' H H' : Hp}
mutual
theorem isFz_of_sc : ∀ {d : D}, isSc d = true → isFz d = true
  | .un, h => rfl
  | .non, h => rfl
  | .bl _, h => rfl
  | .int _, h => rfl
  | .str _, h => rfl
  | .tup xs, h => by simp only [isSc, isFz] at h ⊢; exact isFzs_of_sc h
  | .lst _ _, h => by simp [isSc] at h
  | .obj _ _ _ _, h => by simp [isSc] at h
theorem isFzs_of_sc : ∀ {ds : List D}, isScs ds = true → isFzs ds = true
  | [], _ => rfl
  | d :: ds, h => by
    simp only [isScs, isFzs, Bool.and_eq_true] at h ⊢
    exact ⟨isFz_of_sc h.1, isFzs_of_sc h.2⟩
end
mutual
theorem isOwn_of_sc : ∀ {d : D}, isSc d = true → isOwn d = true
  | .un, h => rfl
  | .non, h => rfl
  | .bl _, h => rfl
  | .int _, h => rfl
  | .str _, h => rfl
  | .tup xs, h => by simp only [isSc, isOwn] at h ⊢; exact isOwns_of_sc h
  | .lst _ _, h => by simp [isSc] at h
  | .obj _ _ _ _, h => by simp [isSc] at h
theorem isOwns_of_sc : ∀ {ds : List D}, isScs ds = true → isOwns ds = true
  | [], _ => rfl
  | d :: ds, h => by
    simp only [isScs, isOwns, Bool.and_eq_true] at h ⊢
    exact ⟨isOwn_of_sc h.1, isOwns_of_sc h.2⟩
end
/-- a value looked at -/
abbrev Vw (K : Fr) (mg : Str → Option Value) (H : Hp) (d : D) (v : V) : Prop := Rep K mg H H d v (fun _ => False)
abbrev Vws (K : Fr) (mg : Str → Option Value) (H : Hp) (ds : List D) (vs : List V) : Prop := Reps K mg H H ds vs (fun _ => False)
theorem vws_cons {d : D} {ds : List D} {v : V} {vs : List V} (h : Vws K mg H (d :: ds) (v :: vs)) : Vw K mg H d v ∧ Vws K mg H ds vs := by
  simp only [Vws, Reps] at h
  obtain ⟨f1, f2, h1, h2, _, e⟩ := h
  exact ⟨rep_iff h1 fun a => ⟨fun z => (e a).2 (.inl z), fun z => z.elim⟩, reps_iff h2 fun a => ⟨fun z => (e a).2 (.inr z), fun z => z.elim⟩⟩
theorem vws_mk {d : D} {ds : List D} {v : V} {vs : List V} (h1 : Vw K mg H d v) (h2 : Vws K mg H ds vs) : Vws K mg H (d :: ds) (v :: vs) := by
  simp only [Vws, Reps]
  exact ⟨_, _, h1, h2, fun _ z => z.elim, fun a => by simp⟩
theorem vws_nil {vs : List V} (h : Vws K mg H [] vs) : vs = [] := by
  cases vs with
  | nil => rfl
  | cons v vs => simp only [Vws, Reps] at h
theorem vws_cons' {d : D} {ds : List D} {vs : List V} (h : Vws K mg H (d :: ds) vs) : ∃ v vs', vs = v :: vs' ∧ Vw K mg H d v ∧ Vws K mg H ds vs' := by
  cases vs with
  | nil => simp only [Vws, Reps] at h
  | cons v vs => exact ⟨v, vs, rfl, vws_cons h⟩
theorem vws_get : ∀ {ds : List D} {vs : List V} {i : Nat} {d : D}, Vws K mg H ds vs → ds[i]? = some d → ∃ v, vs[i]? = some v ∧ Vw K mg H d v
  | [], _, _, _, _, e => by simp at e
  | d :: ds, vs, i, d', h, e => by
    obtain ⟨v, vs', rfl, h1, h2⟩ := vws_cons' h
    cases i with
    | zero => cases e; exact ⟨v, rfl, h1⟩
    | succ i =>
      obtain ⟨w, e1, h3⟩ := vws_get (i := i) h2 (by simpa using e)
      exact ⟨w, by simpa using e1, h3⟩
theorem vw_int {i : Int} {v : V} (h : Vw K mg H (.int i) v) : v = .int i := by simp only [Vw, Rep] at h; exact h.1
theorem vw_bl {i : Bool} {v : V} (h : Vw K mg H (.bl i) v) : v = .bl i := by simp only [Vw, Rep] at h; exact h.1
theorem vw_str {i : Str} {v : V} (h : Vw K mg H (.str i) v) : v = .str i := by simp only [Vw, Rep] at h; exact h.1
theorem vw_non {v : V} (h : Vw K mg H .non v) : v = .non := by simp only [Vw, Rep] at h; exact h.1
theorem rep_int {i : Int} : Rep K mg G H (.int i) (.int i) (fun _ => False) := by simp only [Rep]; exact ⟨trivial, fun _ z => z⟩
theorem rep_bl {i : Bool} : Rep K mg G H (.bl i) (.bl i) (fun _ => False) := by simp only [Rep]; exact ⟨trivial, fun _ z => z⟩
theorem rep_str {i : Str} : Rep K mg G H (.str i) (.str i) (fun _ => False) := by simp only [Rep]; exact ⟨trivial, fun _ z => z⟩
theorem rep_non : Rep K mg G H .non .non (fun _ => False) := by simp only [Rep]; exact ⟨trivial, fun _ z => z⟩
theorem vw_lst {o : Bool} {xs : List D} {v : V} (h : Vw K mg H (.lst o xs) v) : ∃ a vs, v = .ref a ∧ SqL K H a vs ∧ Vws K mg H xs vs := by
  cases o with
  | true =>
    simp only [Vw, Rep] at h
    obtain ⟨a, vs, fp', e, h1, h2, h3, h4⟩ := h
    exact absurd (.inl rfl) fun z => (h4 a).2 z
  | false =>
    simp only [Vw, Rep] at h
    obtain ⟨a, vs, e, h1, h2, _⟩ := h
    exact ⟨a, vs, e, h1, h2⟩
theorem vw_tup {xs : List D} {v : V} (h : Vw K mg H (.tup xs) v) : ∃ a vs, v = .ref a ∧ SqT K H a vs ∧ Vws K mg H xs vs := by
  simp only [Vw, Rep] at h
  exact h
theorem vws_ints : ∀ {xs : List D} {vs : List V} {ns : List Int}, Vws K mg H xs vs → intsOf xs = some ns → vs = ns.map V.int
  | [], vs, ns, h, e => by cases e; exact vws_nil h
  | d :: ds, vs, ns, h, e => by
    obtain ⟨v, vs', rfl, h1, h2⟩ := vws_cons' h
    cases d with
    | int i =>
      simp only [intsOf] at e
      cases q : intsOf ds with
      | none => rw [q] at e; cases e
      | some l =>
        rw [q] at e; cases e
        rw [vw_int h1, vws_ints h2 q]; rfl
    | _ => simp [intsOf] at e
theorem vws_bools : ∀ {xs : List D} {vs : List V} {ns : List Bool}, Vws K mg H xs vs → boolsOf xs = some ns → vs = ns.map V.bl
  | [], vs, ns, h, e => by cases e; exact vws_nil h
  | d :: ds, vs, ns, h, e => by
    obtain ⟨v, vs', rfl, h1, h2⟩ := vws_cons' h
    cases d with
    | bl i =>
      simp only [boolsOf] at e
      cases q : boolsOf ds with
      | none => rw [q] at e; cases e
      | some l =>
        rw [q] at e; cases e
        rw [vw_bl h1, vws_bools h2 q]; rfl
    | _ => simp [boolsOf] at e
theorem vws_len {xs : List D} {vs : List V} (h : Vws K mg H xs vs) : vs.length = xs.length := (reps_len h).symm
mutual
theorem vw_pd : ∀ {d : D} {v : V} {p : PyData}, Vw K mg H d v → toPd d = some p → Dp K H v p
  | .un, v, p, h, e => by simp [toPd] at e
  | .non, v, p, h, e => by cases e; rw [vw_non h]; exact .non
  | .bl b, v, p, h, e => by cases e; rw [vw_bl h]; exact .bl b
  | .int b, v, p, h, e => by cases e; rw [vw_int h]; exact .int b
  | .str b, v, p, h, e => by cases e; rw [vw_str h]; exact .str b
  | .tup xs, v, p, h, e => by
    obtain ⟨a, vs, rfl, h1, h2⟩ := vw_tup h
    simp only [toPd] at e
    cases q : toPds xs with
    | none => rw [q] at e; cases e
    | some l => rw [q] at e; cases e; exact .tup h1 (vws_pd h2 q)
  | .lst o xs, v, p, h, e => by
    obtain ⟨a, vs, rfl, h1, h2⟩ := vw_lst h
    simp only [toPd] at e
    cases q : toPds xs with
    | none => rw [q] at e; cases e
    | some l => rw [q] at e; cases e; exact .lst h1 (vws_pd h2 q)
  | .obj _ _ _ _, v, p, h, e => by simp [toPd] at e
theorem vws_pd : ∀ {ds : List D} {vs : List V} {ps : List PyData}, Vws K mg H ds vs → toPds ds = some ps → DpAll K H vs ps
  | [], vs, ps, h, e => by cases e; rw [vws_nil h]; exact .nil
  | d :: ds, vs, ps, h, e => by
    obtain ⟨v, vs', rfl, h1, h2⟩ := vws_cons' h
    simp only [toPds] at e
    cases q1 : toPd d with
    | none => rw [q1] at e; simp at e
    | some x =>
      cases q2 : toPds ds with
      | none => rw [q1, q2] at e; simp at e
      | some l =>
        rw [q1, q2] at e; cases e
        exact .cons (vw_pd h1 q1) (vws_pd h2 q2)
end
theorem pow2_64 : (18446744073709551616 : Nat) = 2 ^ 64 := by decide
end

/-! ### the operators -/
/-- what is known of the place where the code runs, beside X itself -/
structure Fine (X : Cx) : Prop where
  calm : X.calm = true
  nd : X.N.Nodup
  seer : X.base.NoSeer
  tree : X.prog.given.tree = none
  head : ∃ env l, X.stack = env :: l ∧ env.scope.isGenerator = false ∧ env.scope.isCoroutine = false ∧ env.builtins = builtinsNs ∧ env.globals = mainGlobals
  depth : X.A.depth + Builtin.pylongFrames < recursionLimit
  units : X.A.units + 64 < cLine

section
variable {X : Cx}
theorem Fine.room (F : Fine X) {pins : List (Addr × Obj)} {σ : L2.St} {H : Hp} {s : Shared} (I : Inv X pins σ H s) : PySem.PylongRoom (model X.prog X.w) X.A s := by
  obtain ⟨env, l, e, g, c, b, m⟩ := F.head
  refine PySem.PylongRoom.of I.nolimit F.depth ?_
  exact PySem.SeerAt.of (F.seer.keeps I.bk) F.tree (by rw [I.ok.frames, e]) g c b m
theorem op_fdivP (F : Fine X) : OpR X (binaryOp .FloorDiv) (rI (fun _ j => j ≠ 0) fun i j => .int (i.fdiv j)) := by
  intro pins s σ H x y v u Q I rx ry h
  obtain ⟨i, j, rfl, rfl, hc, q⟩ := h
  obtain ⟨t, rfl⟩ := rx
  obtain ⟨t', rfl⟩ := ry
  exact floordiv_int hc ⟨.int _, H, I.tok _, ⟨_, rfl⟩, q⟩ (.inr (F.room I))
theorem op_mulP : OpR X (binaryOp .Mult) (rI (fun i j => mulOk i j = true) fun i j => .int (i * j)) := opI fun i j _ _ _ _ _ hc q => by
  refine mul_int q ?_
  have b : ∀ x : Int, Builtin.Int.intBits x ≤ x.natAbs.log2 + 1 := fun x => by
    unfold Builtin.Int.intBits
    split <;> omega
  have h1 := b i
  have h2 := b j
  have h3 : i.natAbs.log2 + j.natAbs.log2 < 100000000 := of_decide_eq_true hc
  have e : bitsLine = 134217728 := by decide
  unfold IntMulOk
  intro z
  rw [Bool.and_eq_true] at z
  have z2 := z.2
  unfold Builtin.Int.intTooBig at z2
  have z3 := of_decide_eq_true z2
  rw [e] at z3
  omega
/-- the semantics' own operator -/
def opF : P2 → Value → Value → Sem Value
  | .add => binaryOp .Add
  | .sub => binaryOp .Sub
  | .mul => binaryOp .Mult
  | .fdiv => binaryOp .FloorDiv
  | .mod => binaryOp .Mod
  | .pow => binaryOp .Pow
  | .lt => compareOp .Lt
  | .le => compareOp .LtE
  | .gt => compareOp .Gt
  | .ge => compareOp .GtE
  | .eq => compareOp .Eq
  | .ne => compareOp .NotEq
  | .isn => compareOp .Is
  | .notn => compareOp .IsNot
def r2 (K : Fr) (mg : Str → Option Value) (p : P2) : R2 := fun x y H Q => ∃ a b d v, Vw K mg H a x ∧ Vw K mg H b y ∧ d2 p a b = some d ∧ (isSc d = true → Vw K mg H d v → Q v H) ∧ True
end

/-- a value without lists is the same whatever stays -/
theorem sc_any {K : Fr} {mg : Str → Option Value} {G G' H : Hp} {d : D} {v : V} {fp : FP} (h : isSc d = true) (r : Rep K mg G H d v fp) : Rep K mg G' H d v fp := rep_own d (isOwn_of_sc h) r
theorem decV_int {i j : Int} : decide (V.int i = V.int j) = decide (i = j) := decide_eq_decide.mpr ⟨fun h => V.int.inj h, fun h => congrArg V.int h⟩
theorem decV_str {i j : Str} : decide (V.str i = V.str j) = decide (i = j) := decide_eq_decide.mpr ⟨fun h => V.str.inj h, fun h => congrArg V.str h⟩
theorem decV_bl {i j : Bool} : decide (V.bl i = V.bl j) = decide (i = j) := decide_eq_decide.mpr ⟨fun h => V.bl.inj h, fun h => congrArg V.bl h⟩

section
variable {X : Cx}
/-- what an operator does, by data -/
def Does2 (X : Cx) (p : P2) (r : R2) : Prop := OpR X (opF p) r
theorem eq_pd (F : Fine X) : OpR X (compareOp .Eq) (rEqD X.K) := op_eqD F.units
theorem ne_pd (F : Fine X) : OpR X (compareOp .NotEq) (rNeD X.K) := op_neD F.units

theorem vw_isn {K : Fr} {mg : Str → Option Value} {H : Hp} {a : D} {v : V} (h : Vw K mg H a v) (n : a ≠ .un) : decide (v = .non) = isNon a := by
  cases a with
  | un => exact absurd rfl n
  | non => rw [vw_non h]; rfl
  | bl b => rw [vw_bl h]; rfl
  | int b => rw [vw_int h]; rfl
  | str b => rw [vw_str h]; rfl
  | tup xs => obtain ⟨a, vs, rfl, _⟩ := vw_tup h; rfl
  | lst o xs => obtain ⟨a, vs, rfl, _⟩ := vw_lst h; rfl
  | obj o C ns xs =>
    cases o with
    | true =>
      simp only [Vw, Rep] at h
      obtain ⟨a, Ca, dx, fs, fp', e, _⟩ := h
      rw [e]; rfl
    | false =>
      simp only [Vw, Rep] at h
      obtain ⟨a, Ca, dx, fs, e, _⟩ := h
      rw [e]; rfl

/-- THE OPERATORS: where d2 tells an answer, the semantics' operator gives it -/
theorem does2 (F : Fine X) (mg : Str → Option Value) (p : P2) : OpR X (opF p) (fun x y H Q => ∃ a b d, Vw X.K mg H a x ∧ Vw X.K mg H b y ∧ d2 p a b = some d ∧ ∀ v, isSc d = true → Vw X.K mg H d v → Q v H) := by
  intro pins s σ H x y v u Q I rx ry h
  obtain ⟨a, b, d, ha, hb, e, q⟩ := h
  have qi : ∀ k, d = .int k → Q (.int k) H := fun k e => q _ (by rw [e]; rfl) (by rw [e]; exact rep_int)
  have qb : ∀ k, d = .bl k → Q (.bl k) H := fun k e => q _ (by rw [e]; rfl) (by rw [e]; exact rep_bl)
  have eqd : ∀ k, dEq a b = some k → Q (.bl k) H → wpAny (model X.prog X.w) X.A (compareOp .Eq v u) (EP X pins σ Q) X.xe s := fun k e q => by
    unfold dEq at e
    split at e
    · rename_i px py e1 e2
      split at e
      · rename_i hs
        rw [Bool.and_eq_true] at hs
        cases e
        exact eq_pd F pins s σ H x y v u Q I rx ry ⟨px, py, vw_pd ha e1, vw_pd hb e2, hs.1, hs.2, q⟩
      · cases e
    · cases e
  have ned : ∀ k, dEq a b = some k → Q (.bl (!k)) H → wpAny (model X.prog X.w) X.A (compareOp .NotEq v u) (EP X pins σ Q) X.xe s := fun k e q => by
    unfold dEq at e
    split at e
    · rename_i px py e1 e2
      split at e
      · rename_i hs
        rw [Bool.and_eq_true] at hs
        cases e
        exact ne_pd F pins s σ H x y v u Q I rx ry ⟨px, py, vw_pd ha e1, vw_pd hb e2, hs.1, hs.2, q⟩
      · cases e
    · cases e
  have two : ∀ i j, a = .int i → b = .int j → x = .int i ∧ y = .int j := fun i j e1 e2 => by
    subst e1 e2
    exact ⟨vw_int ha, vw_int hb⟩
  cases p with
  | add =>
    unfold d2 at e; split at e <;> first | contradiction | skip
    all_goals (try (cases e))
    obtain ⟨rfl, rfl⟩ := two _ _ rfl rfl
    exact op_add pins s σ H _ _ v u Q I rx ry ⟨_, _, rfl, rfl, qi _ rfl⟩
  | sub =>
    unfold d2 at e; split at e <;> first | contradiction | skip
    all_goals (try (cases e))
    obtain ⟨rfl, rfl⟩ := two _ _ rfl rfl
    exact op_sub pins s σ H _ _ v u Q I rx ry ⟨_, _, rfl, rfl, qi _ rfl⟩
  | mul =>
    unfold d2 at e; split at e <;> first | contradiction | skip
    obtain ⟨rfl, rfl⟩ := two _ _ rfl rfl
    split at e
    · cases e
      exact op_mulP pins s σ H _ _ v u Q I rx ry ⟨_, _, rfl, rfl, by assumption, qi _ rfl⟩
    · cases e
  | fdiv =>
    unfold d2 at e; split at e <;> first | contradiction | skip
    obtain ⟨rfl, rfl⟩ := two _ _ rfl rfl
    split at e
    · cases e
    · cases e
      exact op_fdivP F pins s σ H _ _ v u Q I rx ry ⟨_, _, rfl, rfl, by assumption, qi _ rfl⟩
  | mod =>
    unfold d2 at e; split at e <;> first | contradiction | skip
    obtain ⟨rfl, rfl⟩ := two _ _ rfl rfl
    split at e
    · cases e
    · cases e
      exact op_modN pins s σ H _ _ v u Q I rx ry ⟨_, _, rfl, rfl, by assumption, qi _ rfl⟩
  | pow =>
    unfold d2 at e; split at e <;> first | contradiction | skip
    obtain ⟨rfl, rfl⟩ := two _ _ rfl rfl
    split at e
    · rename_i hp
      cases e
      unfold powOk at hp
      rw [Bool.and_eq_true, Bool.and_eq_true] at hp
      exact op_pow pins s σ H _ _ v u Q I rx ry ⟨_, _, rfl, rfl, ⟨of_decide_eq_true hp.1, of_decide_eq_true hp.2.1, by rw [← pow2_64]; exact of_decide_eq_true hp.2.2⟩, qi _ rfl⟩
    · cases e
  | lt =>
    unfold d2 at e; split at e <;> first | contradiction | skip
    all_goals (try (cases e))
    obtain ⟨rfl, rfl⟩ := two _ _ rfl rfl
    exact op_lt pins s σ H _ _ v u Q I rx ry ⟨_, _, rfl, rfl, qb _ rfl⟩
  | le =>
    unfold d2 at e; split at e <;> first | contradiction | skip
    all_goals (try (cases e))
    obtain ⟨rfl, rfl⟩ := two _ _ rfl rfl
    exact op_le pins s σ H _ _ v u Q I rx ry ⟨_, _, rfl, rfl, qb _ rfl⟩
  | gt =>
    unfold d2 at e; split at e <;> first | contradiction | skip
    all_goals (try (cases e))
    obtain ⟨rfl, rfl⟩ := two _ _ rfl rfl
    exact op_gt pins s σ H _ _ v u Q I rx ry ⟨_, _, rfl, rfl, qb _ rfl⟩
  | ge =>
    unfold d2 at e; split at e <;> first | contradiction | skip
    all_goals (try (cases e))
    obtain ⟨rfl, rfl⟩ := two _ _ rfl rfl
    exact op_ge pins s σ H _ _ v u Q I rx ry ⟨_, _, rfl, rfl, qb _ rfl⟩
  | eq =>
    unfold d2 at e; split at e <;> first | contradiction | skip
    · cases e
      obtain ⟨rfl, rfl⟩ := two _ _ rfl rfl
      exact op_eq pins s σ H _ _ v u Q I rx ry ⟨rfl, by rw [decV_int]; exact qb _ rfl⟩
    · cases e
      cases vw_str ha; cases vw_str hb
      exact op_eq pins s σ H _ _ v u Q I rx ry ⟨rfl, by rw [decV_str]; exact qb _ rfl⟩
    · cases e
      cases vw_bl ha; cases vw_bl hb
      exact op_eq pins s σ H _ _ v u Q I rx ry ⟨rfl, by rw [decV_bl]; exact qb _ rfl⟩
    · obtain ⟨k, z, e⟩ := Option.map_eq_some_iff.mp e
      cases e
      exact eqd k z (qb k rfl)
  | ne =>
    unfold d2 at e; split at e <;> first | contradiction | skip
    · cases e
      obtain ⟨rfl, rfl⟩ := two _ _ rfl rfl
      exact op_ne pins s σ H _ _ v u Q I rx ry ⟨rfl, by rw [decV_int]; exact qb _ rfl⟩
    · cases e
      cases vw_str ha; cases vw_str hb
      exact op_ne pins s σ H _ _ v u Q I rx ry ⟨rfl, by rw [decV_str]; exact qb _ rfl⟩
    · cases e
      cases vw_bl ha; cases vw_bl hb
      exact op_ne pins s σ H _ _ v u Q I rx ry ⟨rfl, by rw [decV_bl]; exact qb _ rfl⟩
    · obtain ⟨k, z, e⟩ := Option.map_eq_some_iff.mp e
      cases e
      exact ned k z (qb _ rfl)
  | isn =>
    unfold d2 at e; split at e <;> first | contradiction | skip
    rename_i hn _
    cases e
    cases vw_non hb
    refine op_isN pins s σ H _ _ v u Q I rx ry ⟨rfl, ?_⟩
    rw [vw_isn ha (by intro z; subst z; simp_all)]
    exact qb _ rfl
  | notn =>
    unfold d2 at e; split at e <;> first | contradiction | skip
    rename_i hn _
    cases e
    cases vw_non hb
    refine op_notN pins s σ H _ _ v u Q I rx ry ⟨rfl, ?_⟩
    rw [vw_isn ha (by intro z; subst z; simp_all)]
    exact qb _ rfl
end
end Pv

set_option maxHeartbeats 1000000
namespace Pv
open PySem PySem.Spec PyProof.Rows L2

/-! ### built-in functions -/
theorem foldl_max : ∀ (l : List Int) (a : Int), (∀ y ∈ a :: l, y ≤ l.foldl (fun m x => if m < x then x else m) a) ∧ l.foldl (fun m x => if m < x then x else m) a ∈ a :: l
  | [], a => ⟨fun y h => by simp at h; simp [h], by simp⟩
  | b :: l, a => by
    have ih := foldl_max l (if a < b then b else a)
    refine ⟨fun y hy => ?_, ?_⟩
    · have h0 := ih.1 _ (List.mem_cons_self)
      simp only [List.foldl_cons]
      rcases List.mem_cons.mp hy with rfl | hy
      · split at h0 <;> first | omega | (rename_i q; split <;> omega)
      · rcases List.mem_cons.mp hy with rfl | hy
        · split at h0 <;> first | omega | (rename_i q; split <;> omega)
        · exact ih.1 y (List.mem_cons_of_mem _ hy)
    · simp only [List.foldl_cons]
      rcases List.mem_cons.mp ih.2 with e | e
      · rw [e]; split <;> simp
      · exact List.mem_cons_of_mem _ (List.mem_cons_of_mem _ e)
theorem foldl_min : ∀ (l : List Int) (a : Int), (∀ y ∈ a :: l, l.foldl (fun m x => if x < m then x else m) a ≤ y) ∧ l.foldl (fun m x => if x < m then x else m) a ∈ a :: l
  | [], a => ⟨fun y h => by simp at h; simp [h], by simp⟩
  | b :: l, a => by
    have ih := foldl_min l (if b < a then b else a)
    refine ⟨fun y hy => ?_, ?_⟩
    · have h0 := ih.1 _ (List.mem_cons_self)
      simp only [List.foldl_cons]
      rcases List.mem_cons.mp hy with rfl | hy
      · split at h0 <;> first | omega | (rename_i q; split <;> omega)
      · rcases List.mem_cons.mp hy with rfl | hy
        · split at h0 <;> first | omega | (rename_i q; split <;> omega)
        · exact ih.1 y (List.mem_cons_of_mem _ hy)
    · simp only [List.foldl_cons]
      rcases List.mem_cons.mp ih.2 with e | e
      · rw [e]; split <;> simp
      · exact List.mem_cons_of_mem _ (List.mem_cons_of_mem _ e)
theorem maxL_is {l : List Int} {m : Int} (h : m ∈ l) (h2 : ∀ y, y ∈ l → y ≤ m) : m = maxL l := by
  cases l with
  | nil => cases h
  | cons a l =>
    have q := foldl_max l a
    have h3 := h2 _ q.2
    have h4 := q.1 _ h
    show m = l.foldl (fun m x => if m < x then x else m) a
    omega
theorem minL_is {l : List Int} {m : Int} (h : m ∈ l) (h2 : ∀ y, y ∈ l → m ≤ y) : m = minL l := by
  cases l with
  | nil => cases h
  | cons a l =>
    have q := foldl_min l a
    have h3 := h2 _ q.2
    have h4 := q.1 _ h
    show m = l.foldl (fun m x => if x < m then x else m) a
    omega
/-- the function object, and its name -/
def fnV : PF → Value
  | .len => .builtin "len"
  | .abs => .builtin "abs"
  | .min2 => .builtin "min"
  | .max2 => .builtin "max"
  | .minL => .builtin "min"
  | .maxL => .builtin "max"
  | .sum => .builtin "sum"
  | .any => .builtin "any"
  | .all => .builtin "all"
  | .int => .type "int"
  | .gcd => .builtin "math.gcd"
def fnN : PF → Str
  | .len => "len"
  | .abs => "abs"
  | .min2 => "min"
  | .max2 => "max"
  | .minL => "min"
  | .maxL => "max"
  | .sum => "sum"
  | .any => "any"
  | .all => "all"
  | .int => "int"
  | .gcd => "gcd"
section
variable {X : Cx}
theorem vws1 {K : Fr} {mg : Str → Option Value} {H : Hp} {d : D} {vs : List V} (h : Vws K mg H [d] vs) : ∃ v, vs = [v] ∧ Vw K mg H d v := by
  obtain ⟨v, vs', rfl, h1, h2⟩ := vws_cons' h
  cases vws_nil h2
  exact ⟨v, rfl, h1⟩
theorem vws2 {K : Fr} {mg : Str → Option Value} {H : Hp} {d e : D} {vs : List V} (h : Vws K mg H [d, e] vs) : ∃ v w, vs = [v, w] ∧ Vw K mg H d v ∧ Vw K mg H e w := by
  obtain ⟨v, vs', rfl, h1, h2⟩ := vws_cons' h
  obtain ⟨w, rfl, h3⟩ := vws1 h2
  exact ⟨v, w, rfl, h1, h3⟩
theorem doesF (F : Fine X) (mg : Str → Option Value) (p : PF) : CallR X (fnV p) (fun vs H Q => ∃ ds d, Vws X.K mg H ds vs ∧ dF p ds = some d ∧ ∀ v, isSc d = true → Vw X.K mg H d v → Q v H) := by
  intro pins s σ H vs us Q I r h
  obtain ⟨ds, d, hv, e, q⟩ := h
  have qi : ∀ k, d = .int k → Q (.int k) H := fun k e => q _ (by rw [e]; rfl) (by rw [e]; exact rep_int)
  have qb : ∀ k, d = .bl k → Q (.bl k) H := fun k e => q _ (by rw [e]; rfl) (by rw [e]; exact rep_bl)
  cases p with
  | len =>
    unfold dF at e; split at e <;> first | contradiction | skip
    · cases e
      obtain ⟨v, rfl, h1⟩ := vws1 hv
      obtain ⟨a, vs, rfl, h2, h3⟩ := vw_lst h1
      refine call_len_seq pins s σ H _ us Q I r ⟨a, vs, rfl, .inl h2, ?_⟩
      rw [vws_len h3]; exact qi _ rfl
    · cases e
      obtain ⟨v, rfl, h1⟩ := vws1 hv
      obtain ⟨a, vs, rfl, h2, h3⟩ := vw_tup h1
      refine call_len_seq pins s σ H _ us Q I r ⟨a, vs, rfl, .inr h2, ?_⟩
      rw [vws_len h3]; exact qi _ rfl
  | abs =>
    unfold dF at e; split at e <;> first | contradiction | skip
    cases e
    obtain ⟨v, rfl, h1⟩ := vws1 hv
    cases vw_int h1
    exact call_abs pins s σ H _ us Q I r ⟨_, rfl, qi _ rfl⟩
  | min2 =>
    unfold dF at e; split at e <;> first | contradiction | skip
    cases e
    obtain ⟨v, w, rfl, h1, h2⟩ := vws2 hv
    cases vw_int h1; cases vw_int h2
    exact call_min2 F.calm pins s σ H _ us Q I r ⟨_, _, rfl, qi _ rfl⟩
  | max2 =>
    unfold dF at e; split at e <;> first | contradiction | skip
    cases e
    obtain ⟨v, w, rfl, h1, h2⟩ := vws2 hv
    cases vw_int h1; cases vw_int h2
    exact call_max2 F.calm pins s σ H _ us Q I r ⟨_, _, rfl, qi _ rfl⟩
  | minL =>
    unfold dF at e; split at e <;> first | contradiction | skip
    obtain ⟨ns, en, e⟩ := Option.bind_eq_some_iff.mp e
    obtain ⟨v, rfl, h1⟩ := vws1 hv
    obtain ⟨a, vs, rfl, h2, h3⟩ := vw_lst h1
    rw [vws_ints h3 en] at h2
    split at e
    · cases e
    · rename_i hn
      cases e
      refine cr_min F.calm pins s σ H _ us Q I r ⟨a, ns, rfl, h2, List.length_pos_iff.mpr hn, fun m m1 m2 => ?_⟩
      rw [minL_is m1 m2]; exact qi _ rfl
  | maxL =>
    unfold dF at e; split at e <;> first | contradiction | skip
    obtain ⟨ns, en, e⟩ := Option.bind_eq_some_iff.mp e
    obtain ⟨v, rfl, h1⟩ := vws1 hv
    obtain ⟨a, vs, rfl, h2, h3⟩ := vw_lst h1
    rw [vws_ints h3 en] at h2
    split at e
    · cases e
    · rename_i hn
      cases e
      refine cr_max F.calm pins s σ H _ us Q I r ⟨a, ns, rfl, h2, List.length_pos_iff.mpr hn, fun m m1 m2 => ?_⟩
      rw [maxL_is m1 m2]; exact qi _ rfl
  | sum =>
    unfold dF at e; split at e <;> first | contradiction | skip
    obtain ⟨ns, en, e⟩ := Option.map_eq_some_iff.mp e
    cases e
    obtain ⟨v, rfl, h1⟩ := vws1 hv
    obtain ⟨a, vs, rfl, h2, h3⟩ := vw_lst h1
    rw [vws_ints h3 en] at h2
    exact cr_sum F.calm pins s σ H _ us Q I r ⟨a, ns, rfl, h2, qi _ rfl⟩
  | any =>
    unfold dF at e; split at e <;> first | contradiction | skip
    obtain ⟨ns, en, e⟩ := Option.map_eq_some_iff.mp e
    cases e
    obtain ⟨v, rfl, h1⟩ := vws1 hv
    obtain ⟨a, vs, rfl, h2, h3⟩ := vw_lst h1
    rw [vws_bools h3 en] at h2
    exact cr_any F.calm pins s σ H _ us Q I r ⟨a, ns, rfl, h2, qb _ rfl⟩
  | all =>
    unfold dF at e; split at e <;> first | contradiction | skip
    obtain ⟨ns, en, e⟩ := Option.map_eq_some_iff.mp e
    cases e
    obtain ⟨v, rfl, h1⟩ := vws1 hv
    obtain ⟨a, vs, rfl, h2, h3⟩ := vw_lst h1
    rw [vws_bools h3 en] at h2
    exact cr_all F.calm pins s σ H _ us Q I r ⟨a, ns, rfl, h2, qb _ rfl⟩
  | int =>
    unfold dF at e; split at e <;> first | contradiction | skip
    · cases e
      obtain ⟨v, rfl, h1⟩ := vws1 hv
      cases vw_int h1
      exact call_int1 pins s σ H _ us Q I r (.inl ⟨_, rfl, qi _ rfl⟩)
    · cases e
      obtain ⟨v, rfl, h1⟩ := vws1 hv
      cases vw_bl h1
      exact call_int1 pins s σ H _ us Q I r (.inr ⟨_, rfl, qi _ rfl⟩)
  | gcd =>
    unfold dF at e; split at e <;> first | contradiction | skip
    cases e
    obtain ⟨v, w, rfl, h1, h2⟩ := vws2 hv
    cases vw_int h1; cases vw_int h2
    exact cr_gcd pins s σ H _ us Q I r ⟨_, _, rfl, qi _ rfl⟩
/-- a value's truth -/
theorem doesT {mg : Str → Option Value} {d : D} {v : V} {H : Hp} {b : Bool} (h : Vw X.K mg H d v) (e : dT d = some b) : TruV X.K v H b := by
  cases d with
  | un => cases e
  | non => cases e; rw [vw_non h]; exact rfl
  | bl b => cases e; rw [vw_bl h]; exact rfl
  | int i => cases e; rw [vw_int h]; exact rfl
  | str s => cases e
  | tup xs =>
    cases e
    obtain ⟨a, vs, rfl, h1, h2⟩ := vw_tup h
    refine .inr (.inl ⟨vs, h1, ?_⟩)
    cases xs with
    | nil => cases vws_nil h2; rfl
    | cons x xs => obtain ⟨v, vs', rfl, _⟩ := vws_cons' h2; rfl
  | lst o xs =>
    cases e
    obtain ⟨a, vs, rfl, h1, h2⟩ := vw_lst h
    refine .inl ⟨vs, h1, ?_⟩
    cases xs with
    | nil => cases vws_nil h2; rfl
    | cons x xs => obtain ⟨v, vs', rfl, _⟩ := vws_cons' h2; rfl
  | obj _ _ _ _ => cases e
/-- a value's type -/
theorem doesTy {mg : Str → Option Value} {d : D} {v : V} {H : Hp} {T : String} (h : Vw X.K mg H d v) (e : tyName d = some T) : TyX X.K H v (.type T) := by
  cases d with
  | un => cases e
  | non => cases e; rw [vw_non h]; exact .base .non
  | bl b => cases e; rw [vw_bl h]; exact .base (.bl _)
  | int i => cases e; rw [vw_int h]; exact .base (.int _)
  | str s => cases e; rw [vw_str h]; exact .base (.str _)
  | tup xs =>
    cases e
    obtain ⟨a, vs, rfl, h1, h2⟩ := vw_tup h
    rcases h1 with (h1 | ⟨o, h1⟩) | ⟨o, its, n, h1, hc, _⟩
    · exact .base (.tup h1)
    · exact .fTuple h1
    · exact .kTuple h1 hc
  | lst o xs =>
    cases e
    obtain ⟨a, vs, rfl, h1, h2⟩ := vw_lst h
    rcases h1 with (h1 | ⟨o, h1⟩) | ⟨o, its, n, h1, hc, _⟩
    · exact .base (.lst h1)
    · exact .base (.frz h1)
    · exact .kList h1 hc
  | obj _ _ _ _ => cases e
end

/-! ### the state, for lists and tuples -/
section
variable {K : Fr} {mg : Str → Option Value} {G G' H H' : Hp} {fp f1 f2 : FP} {ts : List D} {tv : List V} {rs : List D} {sg : L2.St}
theorem reps_app : ∀ {as bs : List D} {va vb : List V} {f1 f2 : FP}, Reps K mg G H as va f1 → Reps K mg G H bs vb f2 → (∀ a, f1 a → ¬ f2 a) → Reps K mg G H (as ++ bs) (va ++ vb) (fun a => f1 a ∨ f2 a)
  | [], bs, [], vb, f1, f2, h1, h2, _ => by
    simp only [Reps] at h1
    exact reps_iff h2 fun a => by simp [h1 a]
  | a :: as, bs, v :: va, vb, f1, f2, h1, h2, dj => by
    simp only [Reps] at h1
    obtain ⟨g1, g2, k1, k2, k3, k4⟩ := h1
    show Reps K mg G H (a :: (as ++ bs)) (v :: (va ++ vb)) _
    simp only [Reps]
    refine ⟨g1, _, k1, reps_app k2 h2 fun x hx => dj x ((k4 x).2 (.inr hx)), fun x hx hy => ?_, fun x => ?_⟩
    · rcases hy with hy | hy
      · exact k3 x hx hy
      · exact dj x ((k4 x).2 (.inl hx)) hy
    · rw [k4 x, or_assoc]
  | [], _, _ :: _, _, _, _, h1, _, _ => by simp only [Reps] at h1
  | _ :: _, _, [], _, _, _, h1, _, _ => by simp only [Reps] at h1
theorem reps_cut : ∀ {as bs : List D} {va vb : List V} {fp : FP}, as.length = va.length → Reps K mg G H (as ++ bs) (va ++ vb) fp → ∃ f1 f2 : FP, Reps K mg G H as va f1 ∧ Reps K mg G H bs vb f2 ∧ (∀ a, f1 a → ¬ f2 a) ∧ ∀ a, fp a ↔ (f1 a ∨ f2 a)
  | [], bs, [], vb, fp, _, h => ⟨fun _ => False, fp, by simp [Reps], h, fun _ z => z.elim, fun a => by simp⟩
  | a :: as, bs, v :: va, vb, fp, e, h => by
    have h' : Reps K mg G H (a :: (as ++ bs)) (v :: (va ++ vb)) fp := h
    simp only [Reps] at h'
    obtain ⟨g1, g2, k1, k2, k3, k4⟩ := h'
    obtain ⟨f1, f2, q1, q2, q3, q4⟩ := reps_cut (by simpa using e) k2
    refine ⟨fun x => g1 x ∨ f1 x, f2, ?_, q2, fun x hx hy => ?_, fun x => ?_⟩
    · simp only [Reps]
      exact ⟨g1, f1, k1, q1, fun x hx hy => k3 x hx ((q4 x).2 (.inl hy)), fun _ => Iff.rfl⟩
    · rcases hx with hx | hx
      · exact k3 x hx ((q4 x).2 (.inr hy))
      · exact q3 x hx hy
    · rw [k4 x, q4 x, or_assoc]
  | [], _, _ :: _, _, _, e, _ => by simp at e
  | _ :: _, _, [], _, _, e, _ => by simp at e
theorem reps_rev : ∀ {ds : List D} {vs : List V} {fp : FP}, Reps K mg G H ds vs fp → Reps K mg G H ds.reverse vs.reverse fp
  | [], [], fp, h => h
  | d :: ds, v :: vs, fp, h => by
    simp only [Reps] at h
    obtain ⟨g1, g2, k1, k2, k3, k4⟩ := h
    rw [List.reverse_cons, List.reverse_cons]
    refine reps_iff (reps_app (reps_rev k2) (f2 := g1) ?_ fun a ha hb => k3 a hb ha) fun a => ?_
    · simp only [Reps]
      exact ⟨g1, fun _ => False, k1, fun _ z => z, fun _ _ z => z, fun a => by simp⟩
    · rw [k4 a, or_comm]
  | [], _ :: _, _, h => by simp only [Reps] at h
  | _ :: _, [], _, h => by simp only [Reps] at h
/-- several on top, apart -/
theorem R.tops {as : List D} {va : List V} (r : R K mg G H (as ++ ts) (va ++ tv) rs sg fp) (el : as.length = va.length) : ∃ f1 f2 : FP, Reps K mg G H as va f1 ∧ R K mg G H ts tv rs sg f2 ∧ (∀ a, f1 a → ¬ f2 a) ∧ ∀ a, fp a ↔ (f1 a ∨ f2 a) := by
  obtain ⟨⟨ft, fs, h1, h2, h3, h4⟩, sub⟩ := r
  obtain ⟨g1, g2, k1, k2, k3, k4⟩ := reps_cut el h1
  refine ⟨g1, fun a => g2 a ∨ fs a, k1, ⟨⟨g2, fs, k2, h2, fun a ha => h3 a ((k4 a).2 (.inr ha)), fun _ => Iff.rfl⟩, fun a o e => ⟨(sub a o e).1, fun z => (sub a o e).2 ?_⟩⟩, fun a ha hb => ?_, fun a => ?_⟩
  · rcases z with z | z
    · exact (h4 a).2 (.inl ((k4 a).2 (.inr z)))
    · exact (h4 a).2 (.inr z)
  · rcases hb with hb | hb
    · exact k3 a ha hb
    · exact h3 a ((k4 a).2 (.inl ha)) hb
  · rw [h4 a, k4 a, or_assoc]
theorem R.dropN {as : List D} {va : List V} (r : R K mg G H (as ++ ts) (va ++ tv) rs sg fp) (el : as.length = va.length) : ∃ fp' : FP, R K mg G H ts tv rs sg fp' ∧ Step K G H fp G H fp' := by
  obtain ⟨f1, f2, _, r2, _, e⟩ := r.tops el
  exact ⟨f2, r2, .less fun a z => (e a).2 (.inr z)⟩
theorem sqT_upd {p : Addr} {o : HO} (n : H p = none) {a : Addr} {vs : List V} (h : SqT K H a vs) : SqT K (upd H p o) a vs := by
  rcases h with (h | ⟨u, h⟩) | h
  · exact .inl (.inl (by rw [upd_ne (ne_of_none h n)]; exact h))
  · exact .inl (.inr ⟨u, by rw [upd_ne (ne_of_none h n)]; exact h⟩)
  · exact .inr h
/-- a new object -/
theorem Step.alloc {p : Addr} {o : HO} (n : H p = none) {fp' : FP} (h : ∀ a, fp' a → fp a ∨ a = p) : Step K G H fp G (upd H p o) fp' :=
  ⟨fun a u e _ => by rw [upd_ne (ne_of_none e n)]; exact e, fun a vs h => sqT_upd n h, fun a z => (h a z).elim .inr fun e => .inl (by rw [e]; exact n), fun _ _ h => h, fun _ _ h => .inl h⟩
/-- an own object changed -/
theorem Step.set {p : Addr} {o : HO} {xs : List V} (hp : H p = some (.lst xs)) (hf : fp p) {fp' : FP} (h : ∀ a, fp' a → fp a) : Step K G H fp G (upd H p o) fp' := by
  refine ⟨fun a u e n => ?_, fun a vs h => ?_, fun a z => .inr (h a z), fun _ _ h => h, fun _ _ h => .inl h⟩
  · have : a ≠ p := fun z => n (by rw [z]; exact hf)
    rw [upd_ne this]; exact e
  · rcases h with (h | ⟨u, h⟩) | h
    · exact .inl (.inl (by rw [upd_ne (ne_of h hp (by intro z; cases z))]; exact h))
    · exact .inl (.inr ⟨u, by rw [upd_ne (ne_of h hp (by intro z; cases z))]; exact h⟩)
    · exact .inr h
theorem R.mono (r : R K mg G H ts tv rs sg fp) (ht : ∀ a vs, SqT K H a vs → SqT K H' a vs) (hh : ∀ a o, fp a → H a = some o → H' a = some o) (hg : ∀ a o, G a = some o → H' a = some o) : R K mg G H' ts tv rs sg fp := by
  obtain ⟨⟨ft, fs, h1, h2, h3, h4⟩, sub⟩ := r
  exact ⟨⟨ft, fs, reps_mono (fun _ _ h => h) ht ts (fun a o ha => hh a o ((h4 a).2 (.inl ha))) h1, repsO_mono (fun _ _ h => h) ht (fun a o ha => hh a o ((h4 a).2 (.inr ha))) h2, h3, h4⟩, fun a o e => ⟨hg a o e, (sub a o e).2⟩⟩
/-- a new list of what lies on top -/
theorem R.newL {as : List D} {va : List V} {p : Addr} (r : R K mg G H (as.reverse ++ ts) (va.reverse ++ tv) rs sg fp) (el : as.length = va.length) (n : H p = none) :
    ∃ fp' : FP, R K mg G (upd H p (.lst va)) (.lst true as :: ts) (.ref p :: tv) rs sg fp' ∧ Step K G H fp G (upd H p (.lst va)) fp' := by
  obtain ⟨f1, f2, h1, r2, dj, e⟩ := r.tops (by simp [el])
  have h1 := reps_rev h1
  rw [List.reverse_reverse, List.reverse_reverse] at h1
  have np : ∀ a, fp a → a ≠ p := fun a ha z => by
    subst z
    rcases r.there a ha with ⟨_, q⟩ | ⟨_, _, _, q⟩ <;> (rw [n] at q; cases q)
  have tu : ∀ a vs, SqT K H a vs → SqT K (upd H p (.lst va)) a vs := fun a vs h => sqT_upd n h
  have kp : ∀ a o, H a = some o → upd H p (.lst va) a = some o := fun a o h => by rw [upd_ne (ne_of_none h n)]; exact h
  have r3 := r2.mono (H' := upd H p (.lst va)) tu (fun a o _ h => kp a o h) (fun a o h => kp a o (r2.sub a o h).1)
  have h2 : Rep K mg G (upd H p (.lst va)) (.lst true as) (.ref p) (fun a => a = p ∨ f1 a) := by
    simp only [Rep]
    exact ⟨p, va, f1, rfl, upd_same, reps_mono (fun _ _ h => h) tu as (fun a o _ h => kp a o h) h1, fun z => np p ((e p).2 (.inl z)) rfl, fun _ => Iff.rfl⟩
  refine ⟨_, r3.push h2 (fun a ha hb => ?_) (fun a o hg ha => ?_), .alloc n fun a z => ?_⟩
  · rcases ha with ha | ha
    · exact np a ((e a).2 (.inr hb)) ha
    · exact dj a ha hb
  · rcases ha with ha | ha
    · have q := (r.sub a o hg).1
      rw [ha, n] at q; cases q
    · exact (r.sub a o hg).2 ((e a).2 (.inl ha))
  · rcases z with (z | z) | z
    · exact .inr z
    · exact .inl ((e a).2 (.inl z))
    · exact .inl ((e a).2 (.inr z))
/-- a new tuple of what lies on top -/
theorem R.newT {as : List D} {va : List V} {p : Addr} (r : R K mg G H (as.reverse ++ ts) (va.reverse ++ tv) rs sg fp) (el : as.length = va.length) (n : H p = none) :
    ∃ fp' : FP, R K mg G (upd H p (.tup va)) (.tup as :: ts) (.ref p :: tv) rs sg fp' ∧ Step K G H fp G (upd H p (.tup va)) fp' := by
  obtain ⟨f1, f2, h1, r2, dj, e⟩ := r.tops (by simp [el])
  have h1 := reps_rev h1
  rw [List.reverse_reverse, List.reverse_reverse] at h1
  have tu : ∀ a vs, SqT K H a vs → SqT K (upd H p (.tup va)) a vs := fun a vs h => sqT_upd n h
  have kp : ∀ a o, H a = some o → upd H p (.tup va) a = some o := fun a o h => by rw [upd_ne (ne_of_none h n)]; exact h
  have r3 := r2.mono (H' := upd H p (.tup va)) tu (fun a o _ h => kp a o h) (fun a o h => kp a o (r2.sub a o h).1)
  have h2 : Rep K mg G (upd H p (.tup va)) (.tup as) (.ref p) f1 := by
    simp only [Rep]
    exact ⟨p, va, rfl, .inl (.inl upd_same), reps_mono (fun _ _ h => h) tu as (fun a o _ h => kp a o h) h1⟩
  refine ⟨_, r3.push h2 dj (fun a o hg ha => (r.sub a o hg).2 ((e a).2 (.inl ha))), .alloc n fun a z => ?_⟩
  rcases z with z | z
  · exact .inl ((e a).2 (.inl z))
  · exact .inl ((e a).2 (.inr z))
/-- an own list on top: its items changed for others that lie on top of it -/
theorem R.setL {d : D} {v : V} {xs : List D} {vx : V} {ys : List D} (g : List V → List V) (r : R K mg G H (d :: .lst true xs :: ts) (v :: vx :: tv) rs sg fp)
    (hy : ∀ {vs : List V} {f1 f2 : FP}, Rep K mg G H d v f1 → Reps K mg G H xs vs f2 → (∀ a, f1 a → ¬ f2 a) → ∃ f3, Reps K mg G H ys (g vs) f3 ∧ (∀ a, f3 a → f1 a ∨ f2 a)) :
    ∃ (p : Addr) (vs : List V), vx = .ref p ∧ H p = some (.lst vs) ∧ vs.length = xs.length ∧ ∃ fp' : FP,
      R K mg G (upd H p (.lst (g vs))) (.lst true ys :: ts) (.ref p :: tv) rs sg fp' ∧ Step K G H fp G (upd H p (.lst (g vs))) fp' := by
  obtain ⟨f1, f2, h1, r2, dj, e⟩ := r.top
  obtain ⟨g1, g2, k1, r3, dj2, e2⟩ := r2.top
  simp only [Rep] at k1
  obtain ⟨p, vs, g3, rfl, hp, kx, np, e3⟩ := k1
  obtain ⟨f3, q1, q2⟩ := hy h1 kx (fun a ha hb => dj a ha ((e2 a).2 (.inl ((e3 a).2 (.inr hb)))))
  obtain ⟨ws, hws⟩ : ∃ ws, ws = g vs := ⟨_, rfl⟩
  rw [← hws] at q1
  refine ⟨p, vs, rfl, hp, (reps_len kx).symm, ?_⟩
  rw [← hws]
  have pf : fp p := (e p).2 (.inr ((e2 p).2 (.inl ((e3 p).2 (.inl rfl)))))
  have n3 : ¬ f3 p := fun z => by
    rcases q2 p z with z | z
    · exact dj p z ((e2 p).2 (.inl ((e3 p).2 (.inl rfl))))
    · exact np z
  have tu : ∀ a us, SqT K H a us → SqT K (upd H p (.lst ws)) a us := (Step.set (K := K) (G := G) (fp := fp) (o := .lst ws) hp pf (fp' := fp) fun _ z => z).tups
  have kp : ∀ a o, a ≠ p → H a = some o → upd H p (.lst ws) a = some o := fun a o h h2 => by rw [upd_ne h]; exact h2
  have r4 := r3.mono (H' := upd H p (.lst ws)) tu (fun a o ha h => kp a o (fun z => dj2 p ((e3 p).2 (.inl rfl)) (z ▸ ha)) h) (fun a o h => kp a o (fun z => (r.sub a o h).2 (z ▸ pf)) (r.sub a o h).1)
  have h2 : Rep K mg G (upd H p (.lst ws)) (.lst true ys) (.ref p) (fun a => a = p ∨ f3 a) := by
    simp only [Rep]
    exact ⟨p, ws, f3, rfl, upd_same, reps_mono (fun _ _ h => h) tu ys (fun a o ha h => kp a o (fun z => n3 (z ▸ ha)) h) q1, n3, fun _ => Iff.rfl⟩
  have le : ∀ a, (a = p ∨ f3 a) → fp a := fun a z => by
    rcases z with z | z
    · rw [z]; exact pf
    · rcases q2 a z with z | z
      · exact (e a).2 (.inl z)
      · exact (e a).2 (.inr ((e2 a).2 (.inl ((e3 a).2 (.inr z)))))
  refine ⟨_, r4.push h2 (fun a ha hb => ?_) (fun a o hg ha => (r.sub a o hg).2 (le a ha)), .set hp pf fun a z => ?_⟩
  · rcases ha with ha | ha
    · exact dj2 a ((e3 a).2 (.inl ha)) hb
    · rcases q2 a ha with z | z
      · exact dj a z ((e2 a).2 (.inr hb))
      · exact dj2 a ((e3 a).2 (.inr z)) hb
  · rcases z with z | z
    · exact le a z
    · exact (e a).2 (.inr ((e2 a).2 (.inr z)))
/-- x.append(d) -/
theorem R.appL {d : D} {v : V} {xs : List D} {vx : V} (r : R K mg G H (d :: .lst true xs :: ts) (v :: vx :: tv) rs sg fp) :
    ∃ (p : Addr) (vs : List V), vx = .ref p ∧ H p = some (.lst vs) ∧ vs.length = xs.length ∧ ∃ fp' : FP,
      R K mg G (upd H p (.lst (vs ++ [v]))) (.lst true (xs ++ [d]) :: ts) (.ref p :: tv) rs sg fp' ∧ Step K G H fp G (upd H p (.lst (vs ++ [v]))) fp' :=
  r.setL (fun vs => vs ++ [v]) fun {vs f1 f2} h1 h2 dj => by
    refine ⟨_, reps_app h2 (f2 := f1) ?_ (fun a ha hb => dj a hb ha), fun a z => z.symm⟩
    simp only [Reps]
    exact ⟨f1, fun _ => False, h1, fun _ z => z, fun _ _ z => z, fun a => by simp⟩
theorem reps_set : ∀ {xs : List D} {vs : List V} {f1 f2 : FP} {d : D} {v : V} (j : Nat), Rep K mg G H d v f1 → Reps K mg G H xs vs f2 → (∀ a, f1 a → ¬ f2 a) → ∃ f3, Reps K mg G H (xs.set j d) (vs.set j v) f3 ∧ (∀ a, f3 a → f1 a ∨ f2 a)
  | [], [], f1, f2, d, v, j, h1, h2, _ => ⟨f2, by simpa using h2, fun a z => .inr z⟩
  | x :: xs, w :: vs, f1, f2, d, v, 0, h1, h2, dj => by
    simp only [Reps] at h2
    obtain ⟨g1, g2, k1, k2, k3, k4⟩ := h2
    refine ⟨fun a => f1 a ∨ g2 a, ?_, fun a z => z.imp id fun z => (k4 a).2 (.inr z)⟩
    simp only [List.set_cons_zero, Reps]
    exact ⟨f1, g2, h1, k2, fun a ha hb => dj a ha ((k4 a).2 (.inr hb)), fun _ => Iff.rfl⟩
  | x :: xs, w :: vs, f1, f2, d, v, j + 1, h1, h2, dj => by
    simp only [Reps] at h2
    obtain ⟨g1, g2, k1, k2, k3, k4⟩ := h2
    obtain ⟨f3, q1, q2⟩ := reps_set j h1 k2 fun a ha hb => dj a ha ((k4 a).2 (.inr hb))
    refine ⟨fun a => g1 a ∨ f3 a, ?_, fun a z => ?_⟩
    · simp only [List.set_cons_succ, Reps]
      refine ⟨g1, f3, k1, q1, fun a ha hb => ?_, fun _ => Iff.rfl⟩
      rcases q2 a hb with z | z
      · exact dj a z ((k4 a).2 (.inl ha))
      · exact k3 a ha z
    · rcases z with z | z
      · exact .inr ((k4 a).2 (.inl z))
      · exact (q2 a z).imp id fun z => (k4 a).2 (.inr z)
  | [], _ :: _, _, _, _, _, _, _, h, _ => by simp only [Reps] at h
  | _ :: _, [], _, _, _, _, _, _, h, _ => by simp only [Reps] at h
/-- x[j] = d -/
theorem R.putL {d : D} {v : V} {xs : List D} {vx : V} (j : Nat) (r : R K mg G H (d :: .lst true xs :: ts) (v :: vx :: tv) rs sg fp) :
    ∃ (p : Addr) (vs : List V), vx = .ref p ∧ H p = some (.lst vs) ∧ vs.length = xs.length ∧ ∃ fp' : FP,
      R K mg G (upd H p (.lst (vs.set j v))) (.lst true (xs.set j d) :: ts) (.ref p :: tv) rs sg fp' ∧ Step K G H fp G (upd H p (.lst (vs.set j v))) fp' :=
  r.setL (fun vs => vs.set j v) fun h1 h2 dj => reps_set j h1 h2 dj
end
end Pv

set_option maxHeartbeats 1000000
namespace Pv
open PySem PySem.Spec PyProof.Rows L2

/-! ### arguments, answers -/
inductive Arg where
  | tmp (d : D)
  | loc (s : Nat)
inductive Res (A : Type) where
  | ok (a : A) (rs : List D)
  | exc (x : Exc) (rs : List D)
def Res.bd {A B : Type} (r : Option (Res A)) (f : A → List D → Option (Res B)) : Option (Res B) :=
  match r with
  | some (.ok a rs) => f a rs
  | some (.exc x rs) => some (.exc x rs)
  | none => none
theorem Res.bd_ok {A B : Type} {a : A} {rs : List D} {f : A → List D → Option (Res B)} : Res.bd (some (.ok a rs)) f = f a rs := rfl
theorem Res.bd_exc {A B : Type} {a : Exc} {rs : List D} {f : A → List D → Option (Res B)} : Res.bd (some (.exc a rs)) f = some (.exc a rs) := rfl
def isUn : D → Bool
  | .un => true
  | _ => false
/-- the value of an operand, to be looked at -/
def res (rs : List D) : Arg → D
  | .tmp d => fz d
  | .loc s => fz (rs.getD s .un)
def tmps : List Arg → List D
  | [] => []
  | .tmp d :: as => d :: tmps as
  | .loc _ :: as => tmps as

/-- the code runs, and what is asked of an exception -/
structure XRep (K : Fr) (mg : Str → Option Value) (x : Exc) (cls : Value) (da : Option Addr) (H : Hp) : Prop where
  ex : ∃ (Ca dd : Addr) (fs : List (Str × V)), cls = .ref Ca ∧ mg x.C = some (.ref Ca) ∧ da = some dd ∧ H dd = some (.xd fs) ∧ fs.map (·.1) = x.ns ∧ Vws K mg H x.xs (fs.map (·.2)) ∧ isScs x.xs = true
def XP (X : Cx) (W : WX) (x : Exc) (rs : List D) (sg : L2.St) (G H : Hp) (fp : FP) : Prop :=
  ∀ cls da G' H' fp', Step X.K G H fp G' H' fp' → R X.K X.mg G' H' [] [] rs sg fp' → XRep X.K X.mg x cls da H' → W cls da sg H'
theorem XP.step {X : Cx} {W : WX} {x : Exc} {rs : List D} {sg : L2.St} {G H G1 H1 : Hp} {fp f1 : FP} (h : XP X W x rs sg G H fp) (st : Step X.K G H fp G1 H1 f1) : XP X W x rs sg G1 H1 f1 :=
  fun cls da G' H' fp' s2 r q => h cls da G' H' fp' (st.trans s2) r q

/-- a reading does what the evaluation says -/
def Sat (X : Cx) (W : WX) (t : TE) (ev : List D → Option (Res D)) : Prop :=
  ∀ rs r, ev rs = some r → ∀ (sg : L2.St) (G H : Hp) (ts : List D) (tv : List V) (fp : FP) (Q : VK), R X.K X.mg G H ts tv rs sg fp →
    (∀ d rs', r = .ok d rs' → ∀ v G' H' fp', Step X.K G H fp G' H' fp' → R X.K X.mg G' H' (d :: ts) (v :: tv) rs' sg fp' → Q v H') →
    (∀ x rs', r = .exc x rs' → XP X W x rs' sg G H fp) → t sg H Q
/-- a test -/
def SatT (X : Cx) (W : WX) (t : TT) (ev : List D → Option (Res Bool)) : Prop :=
  ∀ rs r, ev rs = some r → ∀ (sg : L2.St) (G H : Hp) (ts : List D) (tv : List V) (fp : FP) (Q : Bool → Hp → Prop), R X.K X.mg G H ts tv rs sg fp →
    (∀ b rs', r = .ok b rs' → ∀ G' H' fp', Step X.K G H fp G' H' fp' → R X.K X.mg G' H' ts tv rs' sg fp' → Q b H') →
    (∀ x rs', r = .exc x rs' → XP X W x rs' sg G H fp) → t sg H Q
/-- readings one after another -/
def runs : List TE → TA
  | [] => fun _ H Q => Q [] H
  | t :: ts => fun sg H Q => t sg H fun x H1 => runs ts sg H1 fun xs H2 => Q (x :: xs) H2
inductive PEs (X : Cx) : List Expr → List TE → Prop
  | nil : PEs X [] []
  | cons {e : Expr} {es : List Expr} {t : TE} {ts : List TE} : PE X e t → PEs X es ts → PEs X (e :: es) (t :: ts)
inductive AR (sg : L2.St) : List Arg → List V → List V → Prop
  | nil : AR sg [] [] []
  | tmp {d : D} {v : V} {as : List Arg} {vs va : List V} : AR sg as vs va → AR sg (.tmp d :: as) (v :: vs) (v :: va)
  | loc {s : Nat} {v : V} {as : List Arg} {vs va : List V} : sg[s]? = some (some v) → AR sg as vs va → AR sg (.loc s :: as) (v :: vs) va
theorem AR.len {sg : L2.St} : ∀ {as : List Arg} {vs va : List V}, AR sg as vs va → (tmps as).length = va.length ∧ as.length = vs.length
  | _, _, _, .nil => ⟨rfl, rfl⟩
  | _, _, _, .tmp h => by have := h.len; simp [tmps, this]
  | _, _, _, .loc _ h => by have := h.len; simp [tmps, this]
def SatA (X : Cx) (W : WX) (t : List TE) (ev : List D → Option (Res (List Arg))) : Prop :=
  ∀ rs r, ev rs = some r → ∀ (sg : L2.St) (G H : Hp) (ts : List D) (tv : List V) (fp : FP) (Q : List V → Hp → Prop), R X.K X.mg G H ts tv rs sg fp →
    (∀ as rs', r = .ok as rs' → ∀ vs va G' H' fp', Step X.K G H fp G' H' fp' → R X.K X.mg G' H' ((tmps as).reverse ++ ts) (va.reverse ++ tv) rs' sg fp' → AR sg as vs va → Q vs H') →
    (∀ x rs', r = .exc x rs' → XP X W x rs' sg G H fp) → runs t sg H Q
/-- several values, all kept -/
def SatV (X : Cx) (W : WX) (t : List TE) (ev : List D → Option (Res (List D))) : Prop :=
  ∀ rs r, ev rs = some r → ∀ (sg : L2.St) (G H : Hp) (ts : List D) (tv : List V) (fp : FP) (Q : List V → Hp → Prop), R X.K X.mg G H ts tv rs sg fp →
    (∀ ds rs', r = .ok ds rs' → ∀ vs G' H' fp', Step X.K G H fp G' H' fp' → R X.K X.mg G' H' (ds.reverse ++ ts) (vs.reverse ++ tv) rs' sg fp' → ds.length = vs.length → Q vs H') →
    (∀ x rs', r = .exc x rs' → XP X W x rs' sg G H fp) → runs t sg H Q

section
variable {X : Cx} {W : WX}
theorem pa_runs : ∀ {es : List Expr} {tes : List TE}, PEs X es tes → (∀ e ∈ es, ∀ r, starEach (e :: r) X.env = (false, eval e X.env) :: starEach r X.env) → PA X es (runs tes)
  | [], [], .nil, _ => pa_nil
  | e :: es, t :: ts, .cons h1 h2, hs => pa_cons h1 (pa_runs h2 fun e he => hs e (List.mem_cons_of_mem _ he)) (hs e List.mem_cons_self es)
theorem satA_nil : SatA X W [] (fun rs => some (.ok [] rs)) := by
  intro rs r e sg G H ts tv fp Q hR h1 h2
  cases e
  exact h1 [] rs rfl [] [] G H fp .refl hR .nil
/-- an operand: a name is left in its slot -/
def opd (s : Option Nat) (r : Option (Res D)) (rs : List D) : Option (Res Arg) :=
  match s with
  | some s => match rs[s]? with
    | some d => if isUn d then none else some (.ok (.loc s) rs)
    | none => none
  | none => Res.bd r fun d rs' => some (.ok (.tmp d) rs')
theorem satA_cons {t : TE} {ts : List TE} {ev : List D → Option (Res D)} {evs : List D → Option (Res (List Arg))} {s : Option Nat}
    (h : match s with
      | some s => t = tVar s
      | none => Sat X W t ev) (hs : SatA X W ts evs) : SatA X W (t :: ts) (fun rs => Res.bd (opd s (ev rs) rs) fun a rs1 => Res.bd (evs rs1) fun as rs2 => some (.ok (a :: as) rs2)) := by
  intro rs r e sg G H τ tv fp Q hR h1 h2
  cases s with
  | some s =>
    have h : t = tVar s := h
    simp only [opd] at e
    cases q : rs[s]? with
    | none => rw [q] at e; cases e
    | some d =>
      rw [q] at e
      simp only at e
      cases u : isUn d with
      | true => rw [u] at e; simp [Res.bd] at e
      | false =>
        rw [u] at e
        simp only [Bool.false_eq_true, if_false, Res.bd_ok] at e
        obtain ⟨v, hv⟩ := hR.val q (by intro z; rw [z] at u; cases u)
        subst h
        refine ⟨v, hv, ?_⟩
        cases q2 : evs rs with
        | none => rw [q2] at e; cases e
        | some r2 =>
          rw [q2] at e
          refine hs rs r2 q2 sg G H τ tv fp _ hR (fun as rs2 er vs va G' H' fp' st R' ar => ?_) (fun x rs2 er => ?_)
          · subst er
            cases e
            exact h1 _ rs2 rfl (v :: vs) va G' H' fp' st R' (.loc hv ar)
          · subst er
            cases e
            exact h2 x rs2 rfl
  | none =>
    have h : Sat X W t ev := h
    simp only [opd] at e
    cases q : ev rs with
    | none => rw [q] at e; cases e
    | some r1 =>
      rw [q] at e
      refine h rs r1 q sg G H τ tv fp _ hR (fun d rs1 er v G1 H1 f1 st1 R1 => ?_) (fun x rs1 er => ?_)
      · subst er
        simp only [Res.bd_ok] at e
        cases q2 : evs rs1 with
        | none => rw [q2] at e; cases e
        | some r2 =>
          rw [q2] at e
          refine hs rs1 r2 q2 sg G1 H1 (d :: τ) (v :: tv) f1 _ R1 (fun as rs2 er vs va G' H' fp' st R' ar => ?_) (fun x rs2 er => ?_)
          · subst er
            cases e
            refine h1 _ rs2 rfl (v :: vs) (v :: va) G' H' fp' (st1.trans st) ?_ (.tmp ar)
            simpa [tmps] using R'
          · subst er
            cases e
            exact (h2 x rs2 rfl).step st1
      · subst er
        cases e
        exact h2 x rs1 rfl
theorem satV_nil : SatV X W [] (fun rs => some (.ok [] rs)) := by
  intro rs r e sg G H ts tv fp Q hR h1 h2
  cases e
  exact h1 [] rs rfl [] G H fp .refl hR rfl
theorem satV_cons {t : TE} {ts : List TE} {ev : List D → Option (Res D)} {evs : List D → Option (Res (List D))} (h : Sat X W t ev) (hs : SatV X W ts evs) :
    SatV X W (t :: ts) (fun rs => Res.bd (ev rs) fun a rs1 => Res.bd (evs rs1) fun as rs2 => some (.ok (a :: as) rs2)) := by
  intro rs r e sg G H τ tv fp Q hR h1 h2
  cases q : ev rs with
  | none => simp only [q] at e; cases e
  | some r1 =>
    simp only [q] at e
    refine h rs r1 q sg G H τ tv fp _ hR (fun d rs1 er v G1 H1 f1 st1 R1 => ?_) (fun x rs1 er => ?_)
    · subst er
      simp only [Res.bd_ok] at e
      cases q2 : evs rs1 with
      | none => rw [q2] at e; cases e
      | some r2 =>
        rw [q2] at e
        refine hs rs1 r2 q2 sg G1 H1 (d :: τ) (v :: tv) f1 _ R1 (fun as rs2 er vs G' H' fp' st R' el => ?_) (fun x rs2 er => ?_)
        · subst er
          cases e
          refine h1 _ rs2 rfl (v :: vs) G' H' fp' (st1.trans st) ?_ (by simp [el])
          simpa using R'
        · subst er
          cases e
          exact (h2 x rs2 rfl).step st1
    · subst er
      cases e
      exact h2 x rs1 rfl

/-- what the operands look like -/
theorem views {K : Fr} {mg : Str → Option Value} {G H : Hp} {sg : L2.St} {rs : List D} : ∀ {as : List Arg} {vs va : List V} {ts : List D} {tv : List V} {fp : FP},
    R K mg G H ((tmps as).reverse ++ ts) (va.reverse ++ tv) rs sg fp → AR sg as vs va → Vws K mg H (as.map (res rs)) vs := by
  intro as vs va ts tv fp hR ar
  have key : ∀ {as : List Arg} {vs va : List V} {f : FP}, AR sg as vs va → Reps K mg G H (tmps as) va f → Vws K mg H (as.map (res rs)) vs := by
    intro as vs va f ar
    induction ar generalizing f with
    | nil => intro _; simp only [List.map_nil, Vws, Reps]; exact fun _ z => z
    | tmp h ih =>
      intro hr
      simp only [tmps, Reps] at hr
      obtain ⟨g1, g2, k1, k2, _, _⟩ := hr
      exact vws_mk (rep_fz (fun a o h => (hR.sub a o h).1) _ (fun a o _ h => h) k1) (ih k2)
    | @loc s v as vs va e h ih =>
      intro hr
      refine vws_mk ?_ (ih hr)
      have hl : s < rs.length := by rw [hR.len]; exact (List.getElem?_eq_some_iff.mp e).1
      have hv := hR.view (List.getElem?_eq_getElem hl) e
      show Vw K mg H (fz (rs.getD s .un)) v
      rw [List.getD_eq_getElem?_getD, List.getElem?_eq_getElem hl]
      exact hv
  obtain ⟨f1, f2, h1, _⟩ := hR.tops (by simp [ar.len.1])
  have h2 := reps_rev h1
  rw [List.reverse_reverse, List.reverse_reverse] at h2
  exact key ar h2

/-! ### a value without lists, reckoned from looked-at operands -/
theorem fin_sc {K : Fr} {mg : Str → Option Value} {G H : Hp} {sg : L2.St} {rs : List D} {as : List Arg} {vs va : List V} {ts : List D} {tv : List V} {fp : FP} {d : D} {v : V}
    (hR : R K mg G H ((tmps as).reverse ++ ts) (va.reverse ++ tv) rs sg fp) (ar : AR sg as vs va) (hs : isSc d = true) (hv : Vw K mg H d v) :
    ∃ fp', R K mg G H (d :: ts) (v :: tv) rs sg fp' ∧ Step K G H fp G H fp' := by
  obtain ⟨f, r, st⟩ := hR.dropN (by simp [ar.len.1])
  exact ⟨f, r.pushE (sc_any hs hv), st⟩

/-- an operation upon looked-at operands -/
def satOp (dl : List D → Option D) (ev : List D → Option (Res (List Arg))) : List D → Option (Res D) := fun rs => Res.bd (ev rs) fun as rs1 =>
  match dl (as.map (res rs1)) with
  | some d => if isSc d then some (.ok d rs1) else none
  | none => none
theorem sat_op {dl : List D → Option D} {tes : List TE} {ev : List D → Option (Res (List Arg))} {t : TE} (Z : VK → List V → Hp → Prop) (hA : SatA X W tes ev)
    (hZ : ∀ Q vs H, (∃ ds d, Vws X.K X.mg H ds vs ∧ dl ds = some d ∧ isSc d = true ∧ ∀ v, Vw X.K X.mg H d v → Q v H) → Z Q vs H)
    (hop : ∀ (sg : L2.St) (H : Hp) (Q : VK), runs tes sg H (Z Q) → t sg H Q) :
    Sat X W t (satOp dl ev) := by
  intro rs r e sg G H τ tv fp Q hR h1 h2
  refine hop sg H Q ?_
  unfold satOp at e
  cases q : ev rs with
  | none => rw [q] at e; cases e
  | some r1 =>
    rw [q] at e
    refine hA rs r1 q sg G H τ tv fp _ hR (fun as rs1 er vs va G1 H1 f1 st R1 ar => ?_) (fun x rs1 er => ?_)
    · subst er
      simp only [Res.bd_ok] at e
      cases q2 : dl (as.map (res rs1)) with
      | none => rw [q2] at e; cases e
      | some d =>
        rw [q2] at e
        simp only at e
        split at e
        · rename_i hs
          cases e
          refine hZ Q vs H1 ⟨_, d, views R1 ar, q2, hs, fun v hv => ?_⟩
          obtain ⟨f, R2, st2⟩ := fin_sc R1 ar hs hv
          exact h1 d rs1 rfl v G1 H1 f (st.trans st2) R2
        · cases e
    · subst er
      cases e
      exact h2 x rs1 rfl
end
end Pv

set_option maxHeartbeats 1000000
namespace Pv
open PySem PySem.Spec PyProof.Rows L2

/-! ### calls -/
def ioOf : List Bool → List Arg → Option (List Nat)
  | [], [] => some []
  | true :: io, .loc s :: as => (ioOf io as).map (s :: ·)
  | false :: io, _ :: as => ioOf io as
  | _, _ => none
def blank (rs : List D) : List Nat → List D
  | [] => rs
  | s :: ss => (blank rs ss).set s .un
def putBack (rs : List D) : List Nat → List D → List D
  | s :: ss, d :: ds => putBack (rs.set s d) ss ds
  | _, _ => rs
def passD (rs0 rsB : List D) : List Bool → List Arg → List D
  | true :: io, .loc s :: as => rs0.getD s .un :: passD rs0 rsB io as
  | false :: io, a :: as => res rsB a :: passD rs0 rsB io as
  | _, _ => []
def freezeV : List Bool → List Arg → List D → List D
  | false :: io, .loc s :: as, rs => freezeV io as (rs.set s (fz (rs.getD s .un)))
  | _ :: io, _ :: as, rs => freezeV io as rs
  | _, _, rs => rs
def nodupB : List Nat → Bool
  | [] => true
  | s :: ss => !ss.contains s && nodupB ss
/-- a call of a def, what is handed over being frozen -/
def callD0 (f : Fn) (as : List Arg) (rs : List D) : Option (Res D) :=
  match ioOf f.io as with
  | none => none
  | some ss => if nodupB ss then
      match f.m (passD rs (blank rs ss) f.io as) with
      | some (.ret d outs) => if outs.length = ss.length then
          if isOwn d && isOwns outs then some (.ok d (putBack (blank rs ss) ss outs))
          else if isFzs (tmps as) then some (.ok d (putBack (freezeV f.io as (blank rs ss)) ss outs)) else none
        else none
      | some (.exc x) => some (.exc x (blank rs ss))
      | none => none
    else none
/-- a call of a def -/
def callD (f : Fn) (as : List Arg) (rs : List D) : Option (Res D) :=
  match ioOf f.io as with
  | none => none
  | some ss => if nodupB ss then
      match f.m (passD rs (blank rs ss) f.io as) with
      | some (.ret d outs) => if outs.length = ss.length then
          if isOwn d && isOwns outs then some (.ok d (putBack (blank rs ss) ss outs))
          else some (.ok d (putBack (freezeV f.io as (blank rs ss)) ss outs))
        else none
      | some (.exc x) => some (.exc x (blank rs ss))
      | none => none
    else none
/-- the values at the parameters that are changed -/
def ioV : List Bool → List V → List V
  | true :: io, v :: vs => v :: ioV io vs
  | false :: io, _ :: vs => ioV io vs
  | _, _ => []
/-- the promise of a def that does what f says -/
def spOf (K : Fr) (mg : Str → Option Value) (f : Fn) : Sp := fun vs H Q E => vs.length = f.io.length ∧ ∃ (G : Hp) (fp : FP) (ds : List D) (o : Out), Reps K mg G H ds vs fp ∧ (∀ a o, G a = some o → H a = some o ∧ ¬ fp a) ∧ f.m ds = some o ∧
  match o with
  | .ret d outs => ∀ v H' G' fp', Step K G H fp G' H' fp' → R K mg G' H' (d :: outs) (v :: ioV f.io vs) [] [] fp' → Q v H'
  | .exc x => ∀ cls da H' G' fp', Step K G H fp G' H' fp' → R K mg G' H' [] [] [] [] fp' → XRep K mg x cls da H' → E cls da H'

section
variable {K : Fr} {mg : Str → Option Value} {G G' H H' : Hp} {fp : FP} {sg : L2.St}
theorem blank_len (rs : List D) : ∀ ss, (blank rs ss).length = rs.length
  | [] => rfl
  | s :: ss => by simp [blank, blank_len rs ss]
theorem blank_get {rs : List D} {s : Nat} : ∀ {ss : List Nat}, s ∉ ss → (blank rs ss)[s]? = rs[s]?
  | [], _ => rfl
  | t :: ss, h => by
    have h1 : t ≠ s := fun z => h (by simp [z])
    have h2 : s ∉ ss := fun z => h (by simp [z])
    simp only [blank]
    rw [List.getElem?_set_ne h1, blank_get h2]
theorem nodupB_ok : ∀ {ss : List Nat}, nodupB ss = true → ss.Nodup
  | [], _ => List.nodup_nil
  | s :: ss, h => by
    simp only [nodupB, Bool.and_eq_true, Bool.not_eq_true', List.contains_iff_mem] at h
    refine List.nodup_cons.mpr ⟨fun z => ?_, nodupB_ok h.2⟩
    have := h.1
    simp [List.contains_eq_mem, z] at this
/-- the slots' values -/
def SV (sg : L2.St) : List Nat → List V → Prop
  | [], [] => True
  | s :: ss, v :: vs => sg[s]? = some (some v) ∧ SV sg ss vs
  | _, _ => False
theorem SV.len : ∀ {ss : List Nat} {vs : List V}, SV sg ss vs → ss.length = vs.length
  | [], [], _ => rfl
  | _ :: _, _ :: _, h => by simp [SV.len h.2]
  | [], _ :: _, h => h.elim
  | _ :: _, [], h => h.elim
theorem takeIO {ts : List D} {tv : List V} {rs : List D} : ∀ {ss : List Nat} {iv : List V} {fp : FP}, R K mg G H ts tv rs sg fp → ss.Nodup → SV sg ss iv → R K mg G H (ss.map (fun s => rs.getD s .un) ++ ts) (iv ++ tv) (blank rs ss) sg fp
  | [], [], fp, r, _, _ => r
  | s :: ss, v :: iv, fp, r, nd, h => by
    have ih := takeIO r (List.nodup_cons.mp nd).2 h.2
    have hl : s < rs.length := by rw [r.len]; exact (List.getElem?_eq_some_iff.mp h.1).1
    have e : (blank rs ss)[s]? = some (rs.getD s .un) := by
      rw [blank_get (List.nodup_cons.mp nd).1, List.getD_eq_getElem?_getD, List.getElem?_eq_getElem hl]; rfl
    exact ih.take e h.1
  | [], _ :: _, _, _, _, h => h.elim
  | _ :: _, [], _, _, _, h => h.elim
theorem putIO {ts : List D} {tv : List V} : ∀ {ss : List Nat} {iv : List V} {outs : List D} {rs : List D} {fp : FP}, R K mg G H (outs ++ ts) (iv ++ tv) rs sg fp → outs.length = ss.length → SV sg ss iv →
    ∃ fp', R K mg G H ts tv (putBack rs ss outs) sg fp' ∧ Step K G H fp G H fp'
  | [], [], [], rs, fp, r, _, _ => ⟨fp, r, .refl⟩
  | s :: ss, v :: iv, d :: outs, rs, fp, r, el, h => by
    obtain ⟨f1, r1, st1⟩ := r.back (s := s) h.1
    obtain ⟨f2, r2, st2⟩ := putIO r1 (by simpa using el) h.2
    exact ⟨f2, r2, st1.trans st2⟩
  | [], _ :: _, _, _, _, _, _, h => h.elim
  | _ :: _, [], _, _, _, _, _, h => h.elim
  | [], [], _ :: _, _, _, _, el, _ => by simp at el
  | _ :: _, _ :: _, [], _, _, _, el, _ => by simp at el
theorem mem_tmps {d : D} : ∀ {l : List Arg}, Arg.tmp d ∈ l → d ∈ tmps l
  | x :: l, z => by
    rcases List.mem_cons.mp z with e | q
    · subst e; simp [tmps]
    · cases x with
      | tmp y => simp only [tmps]; exact List.mem_cons_of_mem _ (mem_tmps q)
      | loc y => simp only [tmps]; exact mem_tmps q
/-- the operands, as what stays may be told wider -/
theorem viewsG {rs : List D} {as : List Arg} {vs va : List V} {ts : List D} {tv : List V}
    (hR : R K mg G H ((tmps as).reverse ++ ts) (va.reverse ++ tv) rs sg fp) (ar : AR sg as vs va)
    (hc : ∀ (d : D) (v : V) (f : FP), (d ∈ tmps as ∨ ∃ s, Arg.loc s ∈ as ∧ rs[s]? = some d) → (∀ a, f a → fp a) → Rep K mg G H d v f → Rep K mg G' H (fz d) v (fun _ => False)) : Reps K mg G' H (as.map (res rs)) vs (fun _ => False) := by
  have key : ∀ {bs : List Arg} {vs va : List V} {f : FP}, (∀ b ∈ bs, b ∈ as) → AR sg bs vs va → Reps K mg G H (tmps bs) va f → (∀ a, f a → fp a) → Reps K mg G' H (bs.map (res rs)) vs (fun _ => False) := by
    intro bs vs va f hb ar
    induction ar generalizing f with
    | nil => intro _ _; simp only [List.map_nil, Reps]; exact fun _ z => z
    | @tmp d v bs vs va h ih =>
      intro hr hf
      simp only [tmps, Reps] at hr
      obtain ⟨g1, g2, k1, k2, _, k4⟩ := hr
      simp only [List.map_cons, Reps]
      refine ⟨_, _, hc d v g1 (.inl ?_) (fun a ha => hf a ((k4 a).2 (.inl ha))) k1, ih (fun b z => hb b (List.mem_cons_of_mem _ z)) k2 (fun a ha => hf a ((k4 a).2 (.inr ha))), fun _ z => z.elim, fun a => by simp⟩
      have hm : Arg.tmp d ∈ as := hb _ List.mem_cons_self
      exact mem_tmps hm
    | @loc s v bs vs va e h ih =>
      intro hr hf
      have hl : s < rs.length := by rw [hR.len]; exact (List.getElem?_eq_some_iff.mp e).1
      obtain ⟨f1, f2, h1, r2, dj, e2⟩ := (hR.take (List.getElem?_eq_getElem hl) e).top
      simp only [List.map_cons, Reps]
      refine ⟨fun _ => False, fun _ => False, ?_, ih (fun b z => hb b (List.mem_cons_of_mem _ z)) hr hf, fun _ z => z.elim, fun a => by simp⟩
      show Rep K mg G' H (fz (rs.getD s .un)) v _
      rw [List.getD_eq_getElem?_getD, List.getElem?_eq_getElem hl]
      exact hc _ v f1 (.inr ⟨s, hb _ List.mem_cons_self, List.getElem?_eq_getElem hl⟩) (fun a ha => (e2 a).2 (.inl ha)) h1
  obtain ⟨f1, f2, h1, _, _, e⟩ := hR.tops (by simp [ar.len.1])
  have h2 := reps_rev h1
  rw [List.reverse_reverse, List.reverse_reverse] at h2
  exact key (fun _ h => h) ar h2 fun a ha => (e a).2 (.inl ha)
/-- the values at the changed parameters are those of their slots -/
theorem sv_of : ∀ {io : List Bool} {as : List Arg} {vs va : List V} {ss : List Nat}, ioOf io as = some ss → AR sg as vs va → SV sg ss (ioV io vs) ∧ vs.length = io.length
  | [], [], _, _, ss, e, .nil => by cases e; exact ⟨trivial, rfl⟩
  | true :: io, .loc s :: as, _, _, ss, e, .loc h ar => by
    simp only [ioOf] at e
    obtain ⟨ss', e1, rfl⟩ := Option.map_eq_some_iff.mp e
    obtain ⟨h1, h2⟩ := sv_of e1 ar
    exact ⟨⟨h, h1⟩, by simp [h2]⟩
  | false :: io, .loc s :: as, _, _, ss, e, .loc h ar => by
    simp only [ioOf] at e
    obtain ⟨h1, h2⟩ := sv_of e ar
    exact ⟨h1, by simp [h2]⟩
  | false :: io, .tmp d :: as, _, _, ss, e, .tmp ar => by
    simp only [ioOf] at e
    obtain ⟨h1, h2⟩ := sv_of e ar
    exact ⟨h1, by simp [h2]⟩
  | true :: io, .tmp d :: as, _, _, ss, e, _ => by simp [ioOf] at e
  | [], _ :: _, _, _, _, e, _ => by simp [ioOf] at e
  | true :: _, [], _, _, _, e, _ => by simp [ioOf] at e
  | false :: _, [], _, _, _, e, _ => by simp [ioOf] at e
theorem vws_cons_g {d : D} {ds : List D} {v : V} {vs : List V} (h : Reps K mg G H (d :: ds) (v :: vs) (fun _ => False)) : Rep K mg G H d v (fun _ => False) ∧ Reps K mg G H ds vs (fun _ => False) := by
  simp only [Reps] at h
  obtain ⟨f1, f2, h1, h2, _, e⟩ := h
  exact ⟨rep_iff h1 fun a => ⟨fun z => (e a).2 (.inl z), fun z => z.elim⟩, reps_iff h2 fun a => ⟨fun z => (e a).2 (.inr z), fun z => z.elim⟩⟩
/-- looked-at and changed ones together -/
theorem mixed {rs rsB : List D} : ∀ {io : List Bool} {as : List Arg} {vs va : List V} {ss : List Nat} {f : FP}, ioOf io as = some ss → AR sg as vs va → Reps K mg G H (as.map (res rsB)) vs (fun _ => False) → Reps K mg G H (ss.map (fun s => rs.getD s .un)) (ioV io vs) f →
    Reps K mg G H (passD rs rsB io as) vs f
  | [], [], _, _, ss, f, e, .nil, _, h2 => by cases e; exact h2
  | true :: io, .loc s :: as, _, _, ss, f, e, .loc h ar, h1, h2 => by
    simp only [ioOf] at e
    obtain ⟨ss', e1, rfl⟩ := Option.map_eq_some_iff.mp e
    simp only [List.map_cons, ioV, Reps] at h2
    obtain ⟨g1, g2, k1, k2, k3, k4⟩ := h2
    have h1' := vws_cons_g h1
    simp only [passD, Reps]
    exact ⟨g1, g2, k1, mixed e1 ar h1'.2 k2, k3, k4⟩
  | false :: io, .loc s :: as, _, _, ss, f, e, .loc h ar, h1, h2 => by
    simp only [ioOf] at e
    have h1' := vws_cons_g h1
    simp only [passD, Reps]
    exact ⟨_, f, h1'.1, mixed e ar h1'.2 h2, fun _ z => z.elim, fun a => by simp⟩
  | false :: io, .tmp d :: as, _, _, ss, f, e, .tmp ar, h1, h2 => by
    simp only [ioOf] at e
    have h1' := vws_cons_g h1
    simp only [passD, Reps]
    exact ⟨_, f, h1'.1, mixed e ar h1'.2 h2, fun _ z => z.elim, fun a => by simp⟩
  | true :: io, .tmp d :: as, _, _, ss, _, e, _, _, _ => by simp [ioOf] at e
  | [], _ :: _, _, _, _, _, e, _, _, _ => by simp [ioOf] at e
  | true :: _, [], _, _, _, _, e, _, _, _ => by simp [ioOf] at e
  | false :: _, [], _, _, _, _, e, _, _, _ => by simp [ioOf] at e
/-- all but some places -/
theorem wider (G H : Hp) (f : FP) : ∃ G' : Hp, (∀ a o, G a = some o → ¬ f a → G' a = some o) ∧ (∀ a o, f a → H a = some o → G' a = some o) ∧ ∀ a o, G' a = some o → (G a = some o ∧ ¬ f a) ∨ (f a ∧ H a = some o) := by
  refine ⟨fun a => @ite _ (f a) (Classical.propDecidable _) (H a) (G a), fun a o h n => ?_, fun a o h1 h2 => ?_, fun a o h => ?_⟩
  · show (@ite _ (f a) (Classical.propDecidable _) (H a) (G a)) = some o
    rw [if_neg n]; exact h
  · show (@ite _ (f a) (Classical.propDecidable _) (H a) (G a)) = some o
    rw [if_pos h1]; exact h2
  · by_cases n : f a
    · have h' : (@ite _ (f a) (Classical.propDecidable _) (H a) (G a)) = some o := h
      rw [if_pos n] at h'
      exact .inr ⟨n, h'⟩
    · have h' : (@ite _ (f a) (Classical.propDecidable _) (H a) (G a)) = some o := h
      rw [if_neg n] at h'
      exact .inl ⟨h', n⟩
/-- the slots that are looked at, frozen -/
theorem R.freezeV {ts : List D} {tv : List V} : ∀ {io : List Bool} {as : List Arg} {vs va : List V} {rs : List D} {G : Hp} {fp : FP}, R K mg G H ts tv rs sg fp → AR sg as vs va →
    ∃ G' fp', R K mg G' H ts tv (Pv.freezeV io as rs) sg fp' ∧ Step K G H fp G' H fp'
  | false :: io, .loc s :: as, _, _, rs, G, fp, r, .loc h ar => by
    have hl : s < rs.length := by rw [r.len]; exact (List.getElem?_eq_some_iff.mp h).1
    have e : rs[s]? = some (rs.getD s .un) := by rw [List.getD_eq_getElem?_getD, List.getElem?_eq_getElem hl]; rfl
    obtain ⟨G1, f1, r1, st1⟩ := r.slotFz e h
    obtain ⟨f2, r2, st2⟩ := r1.drop
    obtain ⟨G3, f3, r3, st3⟩ := R.freezeV (io := io) r2 ar
    exact ⟨G3, f3, r3, (st1.trans st2).trans st3⟩
  | true :: io, .loc s :: as, _, _, rs, G, fp, r, .loc h ar => R.freezeV (io := io) r ar
  | false :: io, .tmp d :: as, _, _, rs, G, fp, r, .tmp ar => R.freezeV (io := io) r ar
  | true :: io, .tmp d :: as, _, _, rs, G, fp, r, .tmp ar => R.freezeV (io := io) r ar
  | [], as, _, _, rs, G, fp, r, ar => ⟨G, fp, by cases as <;> exact r, .refl⟩
  | true :: _, [], _, _, rs, G, fp, r, ar => ⟨G, fp, r, .refl⟩
  | false :: _, [], _, _, rs, G, fp, r, ar => ⟨G, fp, r, .refl⟩
theorem freezeV_len : ∀ {io : List Bool} {as : List Arg} {rs : List D}, (freezeV io as rs).length = rs.length
  | false :: io, .loc s :: as, rs => by simp [freezeV, freezeV_len (io := io) (as := as)]
  | true :: io, .loc s :: as, rs => by simp [freezeV, freezeV_len (io := io) (as := as)]
  | false :: io, .tmp s :: as, rs => by simp [freezeV, freezeV_len (io := io) (as := as)]
  | true :: io, .tmp s :: as, rs => by simp [freezeV, freezeV_len (io := io) (as := as)]
  | [], [], rs => rfl
  | [], _ :: _, rs => rfl
  | true :: _, [], rs => rfl
  | false :: _, [], rs => rfl
/-- frozen all over -/
theorem isFzs_mem : ∀ {ds : List D} {d : D}, isFzs ds = true → d ∈ ds → isFz d = true
  | [], _, _, h => by cases h
  | x :: xs, d, e, h => by
    simp only [isFzs, Bool.and_eq_true] at e
    rcases List.mem_cons.mp h with rfl | h
    · exact e.1
    · exact isFzs_mem e.2 h
theorem rep_of_fz {d : D} {v : V} {f : FP} (h : isFz d = true) (r : Rep K mg G H d v f) : Rep K mg G H (fz d) v (fun _ => False) := by
  rw [fz_id d h]
  exact rep_iff r fun a => ⟨fun z => rep_emp d h r a z, fun z => z.elim⟩
/-- the slots that are looked at are frozen -/
theorem freezeV_fz : ∀ {io : List Bool} {as : List Arg} {rs : List D} {s : Nat} {d : D}, (freezeV io as rs)[s]? = some d → rs[s]? = some d ∨ isFz d = true
  | false :: io, .loc t :: as, rs, s, d, h => by
    rcases freezeV_fz (io := io) (as := as) h with h | h
    · by_cases e : t = s
      · subst e
        have hl : t < rs.length := by
          have := (List.getElem?_eq_some_iff.mp h).1
          simpa using this
        rw [List.getElem?_set_self hl] at h
        cases h
        exact .inr (isFz_fz _)
      · rw [List.getElem?_set_ne e] at h
        exact .inl h
    · exact .inr h
  | true :: io, .loc t :: as, rs, s, d, h => freezeV_fz (io := io) (as := as) h
  | false :: io, .tmp t :: as, rs, s, d, h => freezeV_fz (io := io) (as := as) h
  | true :: io, .tmp t :: as, rs, s, d, h => freezeV_fz (io := io) (as := as) h
  | [], [], rs, s, d, h => .inl h
  | [], _ :: _, rs, s, d, h => .inl h
  | true :: _, [], rs, s, d, h => .inl h
  | false :: _, [], rs, s, d, h => .inl h
theorem freezeV_isFz : ∀ {io : List Bool} {as : List Arg} {rs : List D} {ss : List Nat} {s : Nat} {d : D}, ioOf io as = some ss → (∀ t ∈ ss, ∀ d, rs[t]? = some d → isFz d = true) → Arg.loc s ∈ as → (freezeV io as rs)[s]? = some d → isFz d = true
  | true :: io, .loc t :: as, rs, ss, s, d, e, hs, hm, h => by
    simp only [ioOf] at e
    obtain ⟨ss', e1, rfl⟩ := Option.map_eq_some_iff.mp e
    rcases List.mem_cons.mp hm with z | z
    · cases z
      rcases freezeV_fz (io := io) (as := as) h with q | q
      · exact hs _ List.mem_cons_self _ q
      · exact q
    · exact freezeV_isFz (io := io) e1 (fun t ht => hs t (List.mem_cons_of_mem _ ht)) z h
  | false :: io, .loc t :: as, rs, ss, s, d, e, hs, hm, h => by
    simp only [ioOf] at e
    have hs' : ∀ u ∈ ss, ∀ d, (rs.set t (fz (rs.getD t .un)))[u]? = some d → isFz d = true := fun u hu d hd => by
      by_cases z : t = u
      · subst z
        have hl : t < rs.length := by simpa using (List.getElem?_eq_some_iff.mp hd).1
        rw [List.getElem?_set_self hl] at hd
        cases hd; exact isFz_fz _
      · rw [List.getElem?_set_ne z] at hd
        exact hs u hu d hd
    rcases List.mem_cons.mp hm with z | z
    · cases z
      rcases freezeV_fz (io := io) (as := as) (show (freezeV io as (rs.set t (fz (rs.getD t .un))))[t]? = some d from h) with q | q
      · have hl : t < rs.length := by simpa using (List.getElem?_eq_some_iff.mp q).1
        rw [List.getElem?_set_self hl] at q
        cases q; exact isFz_fz _
      · exact q
    · exact freezeV_isFz (io := io) e hs' z h
  | false :: io, .tmp t :: as, rs, ss, s, d, e, hs, hm, h => by
    simp only [ioOf] at e
    have hm' : Arg.loc s ∈ as := by
      rcases List.mem_cons.mp hm with q | q
      · cases q
      · exact q
    exact freezeV_isFz (io := io) e hs hm' h
  | true :: io, .tmp t :: as, rs, ss, s, d, e, hs, hm, h => by simp [ioOf] at e
  | [], [], rs, ss, s, d, e, hs, hm, h => by cases hm
  | [], _ :: _, rs, ss, s, d, e, hs, hm, h => by simp [ioOf] at e
  | true :: _, [], rs, ss, s, d, e, hs, hm, h => by simp [ioOf] at e
  | false :: _, [], rs, ss, s, d, e, hs, hm, h => by simp [ioOf] at e
theorem fz_fz (d : D) : fz (fz d) = fz d := fz_id _ (isFz_fz d)
theorem freezeV_res : ∀ {io : List Bool} {as : List Arg} {rs : List D} (s : Nat), fz ((freezeV io as rs).getD s .un) = fz (rs.getD s .un)
  | false :: io, .loc t :: as, rs, s => by
    show fz ((freezeV io as (rs.set t (fz (rs.getD t .un)))).getD s .un) = _
    rw [freezeV_res (io := io) (as := as)]
    by_cases z : t = s
    · subst z
      by_cases hl : t < rs.length
      · rw [List.getD_eq_getElem?_getD, List.getElem?_set_self hl]
        exact fz_fz _
      · rw [List.set_eq_of_length_le (by omega)]
    · rw [List.getD_eq_getElem?_getD, List.getElem?_set_ne z, ← List.getD_eq_getElem?_getD]
  | true :: io, .loc t :: as, rs, s => freezeV_res (io := io) (as := as) s
  | false :: io, .tmp t :: as, rs, s => freezeV_res (io := io) (as := as) s
  | true :: io, .tmp t :: as, rs, s => freezeV_res (io := io) (as := as) s
  | [], [], rs, s => rfl
  | [], _ :: _, rs, s => rfl
  | true :: _, [], rs, s => rfl
  | false :: _, [], rs, s => rfl
theorem res_freezeV {io : List Bool} {as bs : List Arg} {rs : List D} : bs.map (res (freezeV io as rs)) = bs.map (res rs) :=
  List.map_congr_left fun a _ => by
    cases a with
    | tmp d => rfl
    | loc s => exact freezeV_res s
theorem isFzs_tmps {as : List Arg} {d : D} (h : isFzs (tmps as) = true) (hm : d ∈ tmps as) : isFz d = true := isFzs_mem h hm
theorem repsR {ds : List D} {vs : List V} {f : FP} (h : Reps K mg G H ds vs f) (hs : ∀ a o, G a = some o → H a = some o ∧ ¬ f a) : R K mg G H ds vs [] [] f :=
  ⟨⟨f, fun _ => False, h, fun _ z => z, fun _ _ z => z, fun a => by simp⟩, hs⟩
theorem R.reps {ds : List D} {vs : List V} {f : FP} (h : R K mg G H ds vs [] [] f) : Reps K mg G H ds vs f := by
  obtain ⟨⟨ft, fs, h1, h2, h3, h4⟩, _⟩ := h
  exact reps_iff h1 fun a => ⟨fun z => (h4 a).2 (.inl z), fun z => ((h4 a).1 z).elim id fun q => absurd q (h2 a)⟩

/-- everything of its own: what stays doesn't matter -/
theorem rep_own_all {d : D} {outs : List D} {vs : List V} {f : FP} (h : isOwn d = true ∧ isOwns outs = true) (r : Reps K mg G H (d :: outs) vs f) : Reps K mg G' H (d :: outs) vs f :=
  reps_own (d :: outs) (by simp [isOwns, h.1, h.2]) r
/-- several laid on -/
theorem R.pushN {as : List D} {va : List V} {ts : List D} {tv : List V} {rs : List D} {f1 f2 : FP} (r : R K mg G H ts tv rs sg f2) (h : Reps K mg G H as va f1) (dj : ∀ a, f1 a → ¬ f2 a) (hg : ∀ a o, G a = some o → ¬ f1 a) : R K mg G H (as ++ ts) (va ++ tv) rs sg (fun a => f1 a ∨ f2 a) := by
  obtain ⟨⟨ft, fs, h1, h2, h3, h4⟩, sub⟩ := r
  refine ⟨⟨fun a => f1 a ∨ ft a, fs, reps_app h h1 fun a ha hb => dj a ha ((h4 a).2 (.inl hb)), h2, fun a ha hb => ?_, fun a => ?_⟩, fun a o e => ⟨(sub a o e).1, fun z => z.elim (hg a o e) (sub a o e).2⟩⟩
  · rcases ha with ha | ha
    · exact dj a ha ((h4 a).2 (.inr hb))
    · exact h3 a ha hb
  · rw [h4 a, or_assoc]
/-- what stays, and the heap, grow -/
theorem R.toG {ts : List D} {tv : List V} {rs : List D} (r : R K mg G H ts tv rs sg fp) (hg : ∀ a o, G a = some o → G' a = some o) (ht : ∀ a vs, SqT K H a vs → SqT K H' a vs) (hh : ∀ a o, fp a → H a = some o → H' a = some o) (hs : ∀ a o, G' a = some o → H' a = some o)
    (hn : ∀ a o, G' a = some o → ¬ fp a) : R K mg G' H' ts tv rs sg fp := by
  obtain ⟨⟨ft, fs, h1, h2, h3, h4⟩, sub⟩ := r
  exact ⟨⟨ft, fs, reps_mono hg ht ts (fun a o ha => hh a o ((h4 a).2 (.inl ha))) h1, repsO_mono hg ht (fun a o ha => hh a o ((h4 a).2 (.inr ha))) h2, h3, h4⟩, fun a o e => ⟨hs a o e, hn a o e⟩⟩
theorem blank_at {rs : List D} : ∀ {ss : List Nat} {t : Nat} {d : D}, t ∈ ss → (blank rs ss)[t]? = some d → d = .un
  | s :: ss, t, d, hm, h => by
    simp only [blank] at h
    by_cases z : s = t
    · subst z
      have hl : s < (blank rs ss).length := by simpa using (List.getElem?_eq_some_iff.mp h).1
      rw [List.getElem?_set_self hl] at h
      cases h; rfl
    · rw [List.getElem?_set_ne z] at h
      rcases List.mem_cons.mp hm with q | q
      · exact absurd q.symm z
      · exact blank_at q h
  | [], _, _, hm, _ => by cases hm
/-- the answer below, the changed ones back in their slots -/
theorem R.swapIO {d : D} {outs : List D} {v : V} {iv : List V} {ts : List D} {tv : List V} {rs : List D} {ss : List Nat} (r : R K mg G H (d :: outs ++ ts) (v :: iv ++ tv) rs sg fp) (el : outs.length = ss.length) (sv : SV sg ss iv) :
    ∃ fp', R K mg G H (d :: ts) (v :: tv) (putBack rs ss outs) sg fp' ∧ Step K G H fp G H fp' := by
  obtain ⟨f1, f2, h1, r2, dj, e⟩ := (show R K mg G H (d :: (outs ++ ts)) (v :: (iv ++ tv)) rs sg fp from r).top
  obtain ⟨f3, r3, st3⟩ := putIO r2 el sv
  have le3 : ∀ a, f3 a → f2 a := fun a z => by
    rcases st3.new a z with q | q
    · rcases r3.there a z with ⟨_, w⟩ | ⟨_, _, _, w⟩ <;> (rw [q] at w; cases w)
    · exact q
  refine ⟨_, r3.push h1 (fun a ha hb => dj a ha (le3 a hb)) (fun a o h z => (r.sub a o h).2 ((e a).2 (.inl z))), .less fun a z => ?_⟩
  rcases z with z | z
  · exact (e a).2 (.inl z)
  · exact (e a).2 (.inr (le3 a z))

/-- A CALL: the arguments stand ready, the def does what f says -/
theorem call_sp0 {f : Fn} {as : List Arg} {rs : List D} {r : Res D} {ts : List D} {tv vs va : List V} {Q : VK} {E : XK} (hR : R K mg G H ((tmps as).reverse ++ ts) (va.reverse ++ tv) rs sg fp) (ar : AR sg as vs va) (e : callD0 f as rs = some r)
    (h1 : ∀ d rs', r = .ok d rs' → ∀ v G' H' fp', Step K G H fp G' H' fp' → R K mg G' H' (d :: ts) (v :: tv) rs' sg fp' → Q v H')
    (h2 : ∀ x rs', r = .exc x rs' → ∀ cls da G' H' fp', Step K G H fp G' H' fp' → R K mg G' H' [] [] rs' sg fp' → XRep K mg x cls da H' → E cls da H') : spOf K mg f vs H Q E := by
  unfold callD0 at e
  cases q1 : ioOf f.io as with
  | none => rw [q1] at e; cases e
  | some ss =>
    rw [q1] at e
    simp only at e
    split at e
    case isFalse => cases e
    rename_i hnd
    have nd := nodupB_ok hnd
    obtain ⟨sv, el⟩ := sv_of q1 ar
    refine ⟨el, ?_⟩
    -- the changed ones are taken out
    have rT := takeIO hR nd sv
    obtain ⟨fI, f2, kI, r2, dj, ef⟩ := rT.tops (by simp [sv.len])
    cases q2 : f.m (passD rs (blank rs ss) f.io as) with
    | none => rw [q2] at e; cases e
    | some o =>
      rw [q2] at e
      cases o with
      | exc x =>
        simp only at e
        cases e
        obtain ⟨Gc, c1, c2, c3⟩ := wider G H f2
        have cG : ∀ a o, G a = some o → Gc a = some o := fun a o h => c1 a o h fun z => (r2.sub a o h).2 z
        have vw := viewsG (G' := Gc) r2 ar fun d v f _ hf hr => rep_fz cG d (fun a o ha h => c2 a o (hf a ha) h) hr
        have cS : ∀ a o, Gc a = some o → H a = some o ∧ ¬ fI a := fun a o h => by
          rcases c3 a o h with z | z
          · exact ⟨(r2.sub a o z.1).1, fun q => (rT.sub a o z.1).2 ((ef a).2 (.inl q))⟩
          · exact ⟨z.2, fun q => dj a q z.1⟩
        refine ⟨Gc, fI, _, .exc x, mixed q1 ar vw (reps_mono cG (fun _ _ h => h) _ (fun _ _ _ h => h) kI), cS, q2, fun cls da H' G' fp' st _ xr => ?_⟩
        obtain ⟨f3, r3, st3⟩ := r2.dropN (by simp [ar.len.1])
        obtain ⟨f4, r4, st4⟩ := (show R K mg G H (ts ++ []) (tv ++ []) _ sg f3 by simpa using r3).dropN (by rw [r3.tlen])
        have le4 : ∀ a, f4 a → f2 a := fun a z => by
          rcases (st3.trans st4).new a z with q | q
          · rcases r4.there a z with ⟨_, w⟩ | ⟨_, _, _, w⟩ <;> (rw [q] at w; cases w)
          · exact q
        have n4 : ∀ a, f4 a → ¬ fI a := fun a z q => dj a q (le4 a z)
        have r5 := r4.mono (H' := H') st.tups (fun a o ha h => st.keep a o h (n4 a ha)) (fun a o h => st.keep a o (r4.sub a o h).1 (cS a o (cG a o h)).2)
        exact h2 x (blank rs ss) rfl cls da G H' f4 ⟨fun a o h n => st.keep a o h (fun z => n ((ef a).2 (.inl z))), st.tups, fun a z => .inr ((ef a).2 (.inr (le4 a z))), fun _ _ h => h, fun a o h => .inl h⟩ r5 xr
      | ret d outs =>
        simp only at e
        split at e
        case isFalse => cases e
        rename_i hol
        split at e
        · -- all is of its own: nothing else is touched
          rename_i hown
          rw [Bool.and_eq_true] at hown
          cases e
          obtain ⟨Gc, c1, c2, c3⟩ := wider G H f2
          have cG : ∀ a o, G a = some o → Gc a = some o := fun a o h => c1 a o h fun z => (r2.sub a o h).2 z
          have vw := viewsG (G' := Gc) r2 ar fun d v f _ hf hr => rep_fz cG d (fun a o ha h => c2 a o (hf a ha) h) hr
          have cS : ∀ a o, Gc a = some o → H a = some o ∧ ¬ fI a := fun a o h => by
            rcases c3 a o h with z | z
            · exact ⟨(r2.sub a o z.1).1, fun q => (rT.sub a o z.1).2 ((ef a).2 (.inl q))⟩
            · exact ⟨z.2, fun q => dj a q z.1⟩
          refine ⟨Gc, fI, _, .ret d outs, mixed q1 ar vw (reps_mono cG (fun _ _ h => h) _ (fun _ _ _ h => h) kI), cS, q2, fun v H' G' fo st ro => ?_⟩
          obtain ⟨f3, r3, st3⟩ := r2.dropN (by simp [ar.len.1])
          have le3 : ∀ a, f3 a → f2 a := fun a z => by
            rcases st3.new a z with q | q
            · rcases r3.there a z with ⟨_, w⟩ | ⟨_, _, _, w⟩ <;> (rw [q] at w; cases w)
            · exact q
          have n3 : ∀ a, f3 a → ¬ fI a := fun a z q => dj a q (le3 a z)
          have r5 := r3.mono (H' := H') st.tups (fun a o ha h => st.keep a o h (n3 a ha)) (fun a o h => st.keep a o (r3.sub a o h).1 (cS a o (cG a o h)).2)
          have ko := rep_own_all (G' := G) hown ro.reps
          have djo : ∀ a, fo a → ¬ f3 a := fun a z q => by
            rcases st.new a z with w | w
            · rcases r3.there a q with ⟨_, y⟩ | ⟨_, _, _, y⟩ <;> (rw [w] at y; cases y)
            · exact n3 a q w
          have r6 := r5.pushN ko djo fun a o h z => (ro.sub a o (st.grow a o (cG a o h))).2 z
          obtain ⟨f7, r7, st7⟩ := r6.swapIO hol sv
          refine h1 d _ rfl v G H' f7 (Step.trans ⟨fun a o h n => st.keep a o h fun z => n ((ef a).2 (.inl z)), st.tups, fun a z => ?_, fun _ _ h => h, fun a o h => .inl h⟩ st7) r7
          rcases z with z | z
          · rcases st.new a z with w | w
            · exact .inl w
            · exact .inr ((ef a).2 (.inl w))
          · exact .inr ((ef a).2 (.inr (le3 a z)))
        · -- what is looked at is frozen
          split at e
          case isFalse => cases e
          rename_i hfz
          cases e
          obtain ⟨G1, f3, r3, st3⟩ := R.freezeV (io := f.io) r2 ar
          have r3' : R K mg G1 H ((tmps as).reverse ++ ts) (va.reverse ++ tv) (freezeV f.io as (blank rs ss)) sg f3 := r3
          have hb : ∀ t ∈ ss, ∀ d, (blank rs ss)[t]? = some d → isFz d = true := fun t ht d hd => by
            rw [blank_at ht hd]; rfl
          have vw := viewsG (G' := G1) r3' ar fun d v f hm _ hr => rep_of_fz (by
            rcases hm with hm | ⟨s, hm, hd⟩
            · exact isFzs_tmps hfz hm
            · exact freezeV_isFz q1 hb hm hd) hr
          rw [res_freezeV] at vw
          have le3 : ∀ a, f3 a → f2 a := fun a z => by
            rcases st3.new a z with q | q
            · rcases r3.there a z with ⟨_, w⟩ | ⟨_, _, _, w⟩ <;> (rw [q] at w; cases w)
            · exact q
          have cS : ∀ a o, G1 a = some o → H a = some o ∧ ¬ fI a := fun a o h => ⟨(r3.sub a o h).1, fun q => by
            rcases st3.lim a o h with w | w | w
            · exact (rT.sub a o w).2 ((ef a).2 (.inl q))
            · have := (r3.sub a o h).1; rw [w] at this; cases this
            · exact dj a q w⟩
          refine ⟨G1, fI, _, .ret d outs, mixed q1 ar vw (reps_mono st3.grow (fun _ _ h => h) _ (fun _ _ _ h => h) kI), cS, q2, fun v H' G' fo st ro => ?_⟩
          obtain ⟨f4, r4, st4⟩ := r3.dropN (by simp [ar.len.1])
          have le4 : ∀ a, f4 a → f2 a := fun a z => by
            rcases st4.new a z with q | q
            · rcases r4.there a z with ⟨_, w⟩ | ⟨_, _, _, w⟩ <;> (rw [q] at w; cases w)
            · exact le3 a q
          have n4 : ∀ a, f4 a → ¬ fI a := fun a z q => dj a q (le4 a z)
          have r5 := R.toG (H' := H') r4 st.grow st.tups (fun a o ha h => st.keep a o h (n4 a ha)) (fun a o h => (ro.sub a o h).1) (fun a o h z => by
            rcases st.lim a o h with w | w | w
            · exact (r4.sub a o w).2 z
            · rcases r4.there a z with ⟨_, y⟩ | ⟨_, _, _, y⟩ <;> (rw [w] at y; cases y)
            · exact n4 a z w)
          have djo : ∀ a, fo a → ¬ f4 a := fun a z q => by
            rcases st.new a z with w | w
            · rcases r4.there a q with ⟨_, y⟩ | ⟨_, _, _, y⟩ <;> (rw [w] at y; cases y)
            · exact n4 a q w
          have r6 := r5.pushN ro.reps djo fun a o h z => (ro.sub a o h).2 z
          obtain ⟨f7, r7, st7⟩ := r6.swapIO hol sv
          refine h1 d _ rfl v G' H' f7 (Step.trans ⟨fun a o h n => st.keep a o h fun z => n ((ef a).2 (.inl z)), st.tups, fun a z => ?_, fun a o h => st.grow a o (st3.grow a o h), fun a o h => ?_⟩ st7) r7
          · rcases z with z | z
            · rcases st.new a z with w | w
              · exact .inl w
              · exact .inr ((ef a).2 (.inl w))
            · exact .inr ((ef a).2 (.inr (le4 a z)))
          · rcases st.lim a o h with w | w | w
            · rcases st3.lim a o w with y | y | y
              · exact .inl y
              · exact .inr (.inl y)
              · exact .inr (.inr ((ef a).2 (.inr y)))
            · exact .inr (.inl w)
            · exact .inr (.inr ((ef a).2 (.inl w)))
/-- the temporaries frozen -/
def fzA : Arg → Arg
  | .loc s => .loc s
  | .tmp d => .tmp (fz d)
theorem fzs_app : ∀ a b : List D, fzs (a ++ b) = fzs a ++ fzs b
  | [], _ => rfl
  | d :: a, b => by simp only [List.cons_append, fzs, fzs_app a b]
theorem fzs_rev : ∀ a : List D, fzs a.reverse = (fzs a).reverse
  | [] => rfl
  | d :: a => by simp only [List.reverse_cons, fzs_app, fzs_rev a, fzs]
theorem R.fzN {ts : List D} {tv : List V} {rs : List D} : ∀ {ts1 : List D} {tv1 : List V} {G : Hp} {fp : FP}, ts1.length = tv1.length → R K mg G H (ts1 ++ ts) (tv1 ++ tv) rs sg fp → ∃ G' fp', R K mg G' H (fzs ts1 ++ ts) (tv1 ++ tv) rs sg fp' ∧ Step K G H fp G' H fp'
  | [], [], G, fp, _, r => ⟨G, fp, r, .refl⟩
  | d :: ts1, v :: tv1, G, fp, hl, r => by
    obtain ⟨f1, f2, hd, r2, dj, ef⟩ := R.top (d := d) (v := v) r
    obtain ⟨G1, f2', r3, st⟩ := R.fzN (ts1 := ts1) (tv1 := tv1) (by simpa using hl) r2
    have le : ∀ a, f2' a → f2 a := fun a z => by
      rcases st.new a z with q | q
      · rcases r3.there a z with ⟨_, w⟩ | ⟨_, _, _, w⟩ <;> (rw [q] at w; cases w)
      · exact q
    have hd' : Rep K mg G1 H d v f1 := rep_mono st.grow (fun _ _ h => h) d (fun _ _ _ h => h) hd
    have hG : ∀ a o, G1 a = some o → ¬ f1 a := fun a o h z => by
      rcases st.lim a o h with w | w | w
      · exact (r.sub a o w).2 ((ef a).2 (.inl z))
      · have := (r3.sub a o h).1; rw [w] at this; cases this
      · exact dj a z w
    have r4 := r3.push hd' (fun a z q => dj a z (le a q)) hG
    obtain ⟨G2, f4, r5, st5⟩ := r4.fz
    refine ⟨G2, f4, r5, Step.trans ⟨fun a o h _ => h, fun _ _ h => h, fun a z => .inr ?_, st.grow, fun a o h => ?_⟩ st5⟩
    · rcases z with z | z
      · exact (ef a).2 (.inl z)
      · exact (ef a).2 (.inr (le a z))
    · rcases st.lim a o h with w | w | w
      · exact .inl w
      · exact .inr (.inl w)
      · exact .inr (.inr ((ef a).2 (.inr w)))
  | [], _ :: _, _, _, hl, _ => by simp at hl
  | _ :: _, [], _, _, hl, _ => by simp at hl
theorem tmps_fzA : ∀ as : List Arg, tmps (as.map fzA) = fzs (tmps as)
  | [] => rfl
  | .loc s :: as => by simp only [List.map_cons, fzA, tmps, tmps_fzA as]
  | .tmp d :: as => by simp only [List.map_cons, fzA, tmps, fzs, tmps_fzA as]
theorem AR.fz : ∀ {as : List Arg} {vs va : List V}, AR sg as vs va → AR sg (as.map fzA) vs va
  | _, _, _, .nil => .nil
  | _, _, _, .tmp h => .tmp (AR.fz h)
  | _, _, _, .loc e h => .loc e (AR.fz h)
theorem ioOf_fzA : ∀ (io : List Bool) (as : List Arg), ioOf io (as.map fzA) = ioOf io as
  | [], [] => rfl
  | true :: io, .loc s :: as => by simp only [List.map_cons, fzA, ioOf, ioOf_fzA io as]
  | true :: io, .tmp s :: as => rfl
  | false :: io, .loc s :: as => by simp only [List.map_cons, fzA, ioOf, ioOf_fzA io as]
  | false :: io, .tmp s :: as => by simp only [List.map_cons, fzA, ioOf, ioOf_fzA io as]
  | [], _ :: _ => rfl
  | true :: _, [] => rfl
  | false :: _, [] => rfl
theorem res_fzA (rs : List D) (a : Arg) : res rs (fzA a) = res rs a := by
  cases a with
  | loc s => rfl
  | tmp d => exact fz_id _ (isFz_fz d)
theorem passD_fzA (r0 rB : List D) : ∀ (io : List Bool) (as : List Arg), passD r0 rB io (as.map fzA) = passD r0 rB io as
  | [], [] => rfl
  | true :: io, .loc s :: as => by simp only [List.map_cons, fzA, passD, passD_fzA r0 rB io as]
  | true :: io, .tmp s :: as => rfl
  | false :: io, a :: as => by simp only [List.map_cons, passD, passD_fzA r0 rB io as, res_fzA]
  | [], _ :: _ => rfl
  | true :: _, [] => rfl
  | false :: _, [] => rfl
theorem freezeV_fzA : ∀ (io : List Bool) (as : List Arg) (rs : List D), freezeV io (as.map fzA) rs = freezeV io as rs
  | [], [], _ => rfl
  | true :: io, .loc s :: as, rs => by simp only [List.map_cons, fzA, freezeV, freezeV_fzA io as]
  | true :: io, .tmp s :: as, rs => by simp only [List.map_cons, fzA, freezeV, freezeV_fzA io as]
  | false :: io, .loc s :: as, rs => by simp only [List.map_cons, fzA, freezeV, freezeV_fzA io as]
  | false :: io, .tmp s :: as, rs => by simp only [List.map_cons, fzA, freezeV, freezeV_fzA io as]
  | [], _ :: _, _ => rfl
  | true :: _, [], _ => rfl
  | false :: _, [], _ => rfl
theorem callD_fzA {f : Fn} {as : List Arg} {rs : List D} : callD0 f (as.map fzA) rs = callD f as rs := by
  unfold callD0 callD
  rw [ioOf_fzA]
  cases ioOf f.io as with
  | none => rfl
  | some ss =>
    dsimp only
    rw [passD_fzA, freezeV_fzA, tmps_fzA, isFzs_fzs]
    simp only [if_true]
theorem call_sp {f : Fn} {as : List Arg} {rs : List D} {r : Res D} {ts : List D} {tv vs va : List V} {Q : VK} {E : XK} (hR : R K mg G H ((tmps as).reverse ++ ts) (va.reverse ++ tv) rs sg fp) (ar : AR sg as vs va) (e : callD f as rs = some r)
    (h1 : ∀ d rs', r = .ok d rs' → ∀ v G' H' fp', Step K G H fp G' H' fp' → R K mg G' H' (d :: ts) (v :: tv) rs' sg fp' → Q v H')
    (h2 : ∀ x rs', r = .exc x rs' → ∀ cls da G' H' fp', Step K G H fp G' H' fp' → R K mg G' H' [] [] rs' sg fp' → XRep K mg x cls da H' → E cls da H') : spOf K mg f vs H Q E := by
  obtain ⟨G0, f0, r0, st0⟩ := R.fzN (by simp [ar.len.1]) hR
  rw [fzs_rev, ← tmps_fzA] at r0
  rw [← callD_fzA] at e
  obtain ⟨el, G1, f1, ds, o, y1, y2, y3, y4⟩ := call_sp0 r0 ar.fz e (fun d rs' er v G' H' fp' st r => h1 d rs' er v G' H' fp' (st0.trans st) r) (fun x rs' er cls da G' H' fp' st r xr => h2 x rs' er cls da G' H' fp' (st0.trans st) r xr)
  exact ⟨el, G1, f1, ds, o, y1, y2, y3, y4⟩
end
end Pv

set_option maxHeartbeats 1000000
namespace Pv
open PySem PySem.Spec PyProof.Rows L2

/-! ### the language of expressions -/
inductive Tg where
  | nm (i : Nat)
  | tp (is : List Nat)
def okS (io : List Nat) (n i : Nat) : Bool := !io.contains i && decide (i < n)
def setAll (io : List Nat) : List Nat → List D → List D → Option (List D)
  | [], [], rs => some rs
  | i :: is, d :: ds, rs => if okS io rs.length i then setAll io is ds (rs.set i d) else none
  | _, _, _ => none
def tgA (io : List Nat) : Tg → D → List D → Option (List D)
  | .nm i, d, rs => if okS io rs.length i then some (rs.set i d) else none
  | .tp is, .tup ds, rs => setAll io is ds rs
  | _, _, _ => none
def rngD (lo : Int) (n : Nat) : List D := (List.range n).map fun i => .int (lo + (i : Nat))
def rngB (n : Int) : Bool := Nat.ble n.natAbs 4611686018427387903
theorem rngB_iff {n : Int} : rngB n = true ↔ n.natAbs ≤ 4611686018427387903 := by unfold rngB; rw [Nat.ble_eq]
def lItems : D → Option (List D)
  | .lst _ xs => some xs
  | _ => none
def enumD : Nat → List D → List D
  | _, [] => []
  | i, d :: ds => .tup [.int (i : Nat), d] :: enumD (i + 1) ds
def zipD : List D → List D → List D
  | x :: xs, y :: ys => .tup [x, y] :: zipD xs ys
  | _, _ => []
/-- slots whose values count no more -/
def wipeD (rs : List D) : List Nat → List D
  | [] => rs
  | i :: is => (wipeD rs is).set i .un
/-- the turns of a comprehension -/
def lcL (asg : D → List D → Option (List D)) (own : List Nat) (cd el : List D → Option (Res D)) : List D → List D → List D → Option (List D × List D)
  | [], rs, acc => some (acc, rs)
  | d :: ds, rs, acc => match asg d rs with
    | some rs1 => match cd rs1 with
      | some (.ok (.bl true) rs2) => match el rs2 with
        | some (.ok y rs3) => if acc.length < 1000000 then lcL asg own cd el ds (wipeD rs3 own) (acc ++ [y]) else none
        | _ => none
      | some (.ok (.bl false) rs2) => lcL asg own cd el ds (wipeD rs2 own) acc
      | _ => none
    | none => none
def lcD (t : Tg) (own : List Nat) (it : List D → Option (Res (List D))) (cd el : List D → Option (Res D)) (rs : List D) : Option (Res D) :=
  Res.bd (it rs) fun ds rs1 => match lcL (tgA [] t) own cd el ds (wipeD rs1 own) [] with
    | some p => some (.ok (.lst true p.1) (wipeD p.2 own))
    | none => none
/-- ints, each by itself -/
def intsD : List D → Option (List Int)
  | [] => some []
  | .int i :: ds => (intsD ds).map (i :: ·)
  | _ => none
def keyD : D → Option (List Int)
  | .tup xs => intsD xs
  | _ => none
/-- the turns of a set comprehension of tuples of ints -/
def lsL (asg : D → List D → Option (List D)) (own : List Nat) (cd el : List D → Option (Res D)) : List D → List D → List (List Int) → Option (List (List Int) × List D)
  | [], rs, acc => some (acc, rs)
  | d :: ds, rs, acc => match asg d rs with
    | some rs1 => match cd rs1 with
      | some (.ok (.bl true) rs2) => match el rs2 with
        | some (.ok y rs3) => match keyD y with
          | some k => if acc.length + 1 < 64 then lsL asg own cd el ds (wipeD rs3 own) (if acc.contains k then acc else acc ++ [k]) else none
          | none => none
        | _ => none
      | some (.ok (.bl false) rs2) => lsL asg own cd el ds (wipeD rs2 own) acc
      | _ => none
    | none => none
def lsD (t : Tg) (own : List Nat) (it : List D → Option (Res (List D))) (cd el : List D → Option (Res D)) (rs : List D) : Option (Res D) :=
  Res.bd (it rs) fun ds rs1 => match lsL (tgA [] t) own cd el ds (wipeD rs1 own) [] with
    | some p => some (.ok (.int (p.1.length : Nat)) (wipeD p.2 own))
    | none => none
mutual
inductive E where
  | var (i : Nat)
  | mv (i : Nat)
  | con (d : D)
  | glo (x : Str) (d : D)
  | op2 (p : P2) (a b : E)
  | neg (a : E)
  | lnot (a : E)
  | land (as : Es)
  | lor (as : Es)
  | ite (c a b : E)
  | chn (p q : P2) (a b c : E)
  | fnc (p : PF) (as : Es)
  | isi (a : E) (T : String)
  | call (x : Str) (f : Fn) (as : Es)
  | tup (as : Es)
  | lst (as : Es)
  | ix (a i : E)
  | pk (a : E)
  | cpy (a : E)
  | lc (t : Tg) (it : Iter) (c : Es) (e : E) (own : List Nat)
  | lenset (t : Tg) (it : Iter) (c : Es) (e : E) (own : List Nat)
  | sorted (a : E)
  | mvix (s : Nat) (k : E)
  | lenO (s : Nat) (C : Str) (f : Fn)
  | itmO (s : Nat) (C : Str) (f : Fn) (as : Es)
  | fld (s : Nat) (C f : Str)
  | meth (s : Nat) (C m : Str) (f : Fn) (as : Es)
  | make (C : Str) (f : Fn) (as : Es)
  | tupc (a : E)
inductive Es where
  | nil
  | cons (a : E) (r : Es)
inductive Iter where
  | rng1 (as : Es)
  | rng2 (as : Es)
  | seqL (a : E)
  | enm (a : E)
  | zip (a b : E)
end
def slotOf : E → Option Nat
  | .var s => some s
  | _ => none
def itemsOf : D → Option (List D)
  | .tup xs => some xs
  | .lst _ xs => some xs
  | _ => none
/-- the kinds of a value, by the built-in type's name -/
def dIs (T : String) (d : D) : Option D := match tyName d with
  | some n => (kitB n T).map .bl
  | none => none
def one (f : D → Option D) : List D → Option D
  | [x] => f x
  | _ => none
def two (f : D → D → Option D) : List D → Option D
  | [x, y] => f x y
  | _ => none
def dNeg : D → Option D
  | .int i => some (.int (-i))
  | _ => none
def scOnly : Option D → Option D
  | some d => if isSc d then some d else none
  | none => none
def at2 : D → D → Option D
  | d, .int k => match itemsOf d with
    | some xs => atI xs k
    | none => none
  | _, _ => none
def ob {A B : Type} (r : Option A) (f : A → Option B) : Option B := match r with
  | some a => f a
  | none => none
/-- a field's place -/
def fIx (f : Str) : List Str → Option Nat
  | [] => none
  | g :: r => if g = f then some 0 else (fIx f r).map (· + 1)
def fldD (C f : Str) : D → Option D
  | .obj _ C' ns xs => if C' = C then ob (fIx f ns) fun j => xs[j]? else none
  | _ => none
def objOk (C m : Str) : Option D → Bool
  | some (.obj _ C' ns _) => decide (C' = C) && (fIx m ns).isNone
  | _ => false
def makeD (C : Str) (f : Fn) (as : List Arg) (rs : List D) : Option (Res D) := match callD f (.loc rs.length :: as) (rs ++ [.obj true C [] []]) with
  | some (.ok .non rs2) => some (.ok (rs2.getD rs.length .un) (rs2.take rs.length))
  | some (.exc x rs2) => some (.exc x (rs2.take rs.length))
  | _ => none
/-- what len makes of an own __len__ -/
def lenRes : Option (Res D) → Option (Res D)
  | some (.ok (.int n) rs) => if 0 ≤ n ∧ n < 4611686018427387904 then some (.ok (.int n) rs) else none
  | some (.exc x rs) => some (.exc x rs)
  | _ => none
def lstItems : D → Option (List D)
  | .lst _ xs => some xs
  | _ => none
def tupLoc (s : Nat) (rs : List D) : Option (Res D) := ob rs[s]? fun d => ob (lstItems d) fun xs => if isFzs xs then some (.ok (.tup xs) rs) else none
def tupTmp (d : D) (rs : List D) : Option (Res D) := ob (lstItems d) fun xs => some (.ok (.tup xs) rs)
/-- the data of a value -/
def pdOf (d : D) : PyData := (toPd d).getD .none
def alikeB (ps : List PyData) : Bool := ps.all fun p => ps.all fun q => PySem.W.alike p q
def isTup1 : PyData → Bool
  | .tuple (_ :: _) => true
  | _ => false
def noTup : PyData → Bool
  | .none => false
  | .tuple _ => false
  | _ => true
def sortB (ps : List PyData) : Bool := alikeB ps && ((ps.all isTup1 || ps.all noTup) && ps.all fun p => decide (p.depth ≤ 50))
def sortD (xs : List D) : List D := xs.mergeSort (PySem.W.dataLe false pdOf)
def sortTmp (d : D) (rs : List D) : Option (Res D) := ob (lstItems (fz d)) fun xs => ob (toPds xs) fun ps => if sortB ps && decide (xs.length ≤ 1000) then some (.ok (.lst true (sortD xs)) rs) else none
mutual
/-- an expression that changes nothing, by a look -/
def evP : E → List D → Option D
  | .var s, rs => match rs[s]? with
    | some d => if isUn d then none else some (fz d)
    | none => none
  | .con d, _ => some d
  | .glo _ d, _ => some d
  | .op2 p a b, rs => ob (evP a rs) fun x => ob (evP b rs) fun y => scOnly (d2 p x y)
  | .neg a, rs => ob (evP a rs) fun x => dNeg x
  | .fnc p as, rs => ob (evPs as rs) fun xs => scOnly (dF p xs)
  | .isi a T, rs => ob (evP a rs) fun x => scOnly (dIs T x)
  | .ix a i, rs => ob (evP a rs) fun x => ob (evP i rs) fun y => at2 x y
  | .fld s C f, rs => ob rs[s]? fun d => ob (fldD C f d) fun c => if isUn c then none else some (fz c)
  | _, _ => none
def evPs : Es → List D → Option (List D)
  | .nil, _ => some []
  | .cons a r, rs => ob (evP a rs) fun x => ob (evPs r rs) fun xs => some (x :: xs)
end
/-- d with other items -/
def withItems : D → List D → D
  | .tup _, ys => .tup ys
  | .lst o _, ys => .lst o ys
  | d, _ => d
/-- d with its k-th item another -/
def setAt (d : D) (xs : List D) (k : Int) (c : D) : D := match ixN xs.length k with
  | some j => withItems d (xs.set j c)
  | none => d
def ixLoc (s : Nat) (k : D) (rs : List D) : Option (Res D) := match k with
  | .int k => ob rs[s]? fun d => ob (itemsOf d) fun xs => ob (atI xs k) fun c => if isFz c then some (.ok c rs) else some (.ok (fz c) (rs.set s (setAt d xs k (fz c))))
  | _ => none
/-- a place of a list moved out -/
def mvLoc (s : Nat) (k : D) (rs : List D) : Option (Res D) := match k with
  | .int k => ob rs[s]? fun d => ob (itemsOf d) fun xs => ob (atI xs k) fun c => if isUn c then none else some (.ok c (rs.set s (setAt d xs k .un)))
  | _ => none
def ixTmp (d k : D) (rs : List D) : Option (Res D) := match k with
  | .int k => ob (itemsOf d) fun xs => ob (atI xs k) fun c => some (.ok c rs)
  | _ => none
def cpyLoc (s : Nat) (rs : List D) : Option (Res D) := ob rs[s]? fun d => ob (itemsOf d) fun xs => if isFzs xs then some (.ok (.lst true xs) rs) else none
def cpyTmp (d : D) (rs : List D) : Option (Res D) := ob (itemsOf d) fun xs => some (.ok (.lst true xs) rs)
def asBl : D → Option Bool
  | .bl b => some b
  | _ => none
def a0 : List D → Option (Res (List Arg)) := fun rs => some (.ok [] rs)
def a1 (s : Option Nat) (ev : List D → Option (Res D)) (evs : List D → Option (Res (List Arg))) : List D → Option (Res (List Arg)) := fun rs => Res.bd (opd s (ev rs) rs) fun a rs1 => Res.bd (evs rs1) fun as rs2 => some (.ok (a :: as) rs2)
def v0 : List D → Option (Res (List D)) := fun rs => some (.ok [] rs)
def v1 (ev : List D → Option (Res D)) (evs : List D → Option (Res (List D))) : List D → Option (Res (List D)) := fun rs => Res.bd (ev rs) fun a rs1 => Res.bd (evs rs1) fun as rs2 => some (.ok (a :: as) rs2)
def chnD (p q : P2) (x y : Option D) (z : Option D) (rs : List D) : Option (Res D) := ob x fun x => ob y fun y => match d2 p x y with
  | some (.bl true) => ob z fun z => ob (scOnly (d2 q y z)) fun d => match d with
    | .bl b => some (.ok (.bl b) rs)
    | _ => none
  | some (.bl false) => some (.ok (.bl false) rs)
  | _ => none
mutual
def evE : E → Bool → List D → Option (Res D)
  | .var s, mv, rs => ob rs[s]? fun d => if isUn d then none else if mv && !isFz d then some (.ok d (rs.set s .un)) else some (.ok (fz d) (rs.set s (fz d)))
  | .mv s, _, rs => ob rs[s]? fun d => if isUn d then none else if true && !isFz d then some (.ok d (rs.set s .un)) else some (.ok (fz d) (rs.set s (fz d)))
  | .con d, _, rs => some (.ok d rs)
  | .glo _ d, _, rs => some (.ok d rs)
  | .op2 p a b, _, rs => satOp (two (d2 p)) (a1 (slotOf a) (evE a false) (a1 (slotOf b) (evE b false) a0)) rs
  | .neg a, _, rs => satOp (one dNeg) (a1 (slotOf a) (evE a false) a0) rs
  | .lnot a, _, rs => Res.bd (evE a false rs) fun d rs1 => ob (asBl d) fun b => some (.ok (.bl (!b)) rs1)
  | .land as, _, rs => evAnd as rs
  | .lor as, _, rs => evOr as rs
  | .ite c a b, mv, rs => Res.bd (evE c false rs) fun d rs1 => ob (asBl d) fun k => if k then evE a mv rs1 else evE b mv rs1
  | .chn p q a b c, _, rs => chnD p q (evP a rs) (evP b rs) (evP c rs) rs
  | .fnc p as, _, rs => satOp (dF p) (evA as) rs
  | .isi a T, _, rs => satOp (one (dIs T)) (a1 (slotOf a) (evE a false) a0) rs
  | .call _ f as, _, rs => Res.bd (evA as rs) fun as rs1 => callD f as rs1
  | .tup as, mv, rs => Res.bd (evV as mv rs) fun ds rs1 => if ds.length ≤ 1000 then some (.ok (.tup ds) rs1) else none
  | .lst as, mv, rs => Res.bd (evV as mv rs) fun ds rs1 => if ds.length ≤ 1000 then some (.ok (.lst true ds) rs1) else none
  | .ix a i, _, rs => match slotOf a with
    | some s => ob rs[s]? fun d0 => if isUn d0 then none else Res.bd (evE i false rs) fun k rs1 => ixLoc s k rs1
    | none => Res.bd (evE a false rs) fun d rs1 => Res.bd (evE i false rs1) fun k rs2 => ixTmp d k rs2
  | .pk a, _, rs => ob (scOnly (evP a rs)) fun d => some (.ok d rs)
  | .cpy a, _, rs => match slotOf a with
    | some s => cpyLoc s rs
    | none => Res.bd (evE a false rs) fun d rs1 => cpyTmp d rs1
  | .fld s C f, _, rs => ob rs[s]? fun d => ob (fldD C f d) fun c => if isFz c && !isUn c then some (.ok c rs) else none
  | .meth s C m f as, _, rs => if objOk C m rs[s]? then Res.bd (evA as rs) fun as rs1 => callD f (.loc s :: as) rs1 else none
  | .make C f as, _, rs => Res.bd (evA as rs) fun as rs1 => makeD C f as rs1
  | .lenO s C f, _, rs => if objOk C "__len__" rs[s]? then lenRes (callD f [.loc s] rs) else none
  | .itmO s C f as, _, rs => ob rs[s]? fun d0 => if isUn d0 then none else Res.bd (evA as rs) fun as rs1 => if objOk C "__getitem__" rs1[s]? then callD f (.loc s :: as) rs1 else none
  | .tupc a, _, rs => match slotOf a with
    | some s => tupLoc s rs
    | none => Res.bd (evE a false rs) fun d rs1 => tupTmp d rs1
  | .lc t it c e own, _, rs => lcD t own (evI it) (evAnd c) (evE e false) rs
  | .lenset t it c e own, _, rs => lsD t own (evI it) (evAnd c) (evE e false) rs
  | .sorted a, _, rs => Res.bd (evE a false rs) fun d rs1 => sortTmp d rs1
  | .mvix s i, _, rs => ob rs[s]? fun d0 => if isUn d0 then none else Res.bd (evE i false rs) fun k rs1 => mvLoc s k rs1
def evA : Es → List D → Option (Res (List Arg))
  | .nil, rs => a0 rs
  | .cons a r, rs => a1 (slotOf a) (evE a false) (evA r) rs
def evV : Es → Bool → List D → Option (Res (List D))
  | .nil, _, rs => v0 rs
  | .cons a r, mv, rs => v1 (evE a mv) (evV r mv) rs
def evAnd : Es → List D → Option (Res D)
  | .nil, rs => some (.ok (.bl true) rs)
  | .cons a r, rs => Res.bd (evE a false rs) fun d rs1 => ob (asBl d) fun b => if b then evAnd r rs1 else some (.ok (.bl false) rs1)
def evI : Iter → List D → Option (Res (List D))
  | .rng1 as, rs => Res.bd (evA as rs) fun as rs1 => match as.map (res rs1) with
    | [.int n] => if rngB n then some (.ok (rngD 0 n.toNat) rs1) else none
    | _ => none
  | .rng2 as, rs => Res.bd (evA as rs) fun as rs1 => match as.map (res rs1) with
    | [.int a, .int b] => if rngB a && rngB b then some (.ok (rngD a (b - a).toNat) rs1) else none
    | _ => none
  | .seqL a, rs => Res.bd (evE a false rs) fun d rs1 => ob (itemsOf (fz d)) fun xs => some (.ok xs rs1)
  | .enm a, rs => Res.bd (evE a false rs) fun d rs1 => ob (lItems (fz d)) fun xs => some (.ok (enumD 0 xs) rs1)
  | .zip a b, rs => Res.bd (evE a false rs) fun d rs1 => Res.bd (evE b false rs1) fun d2 rs2 => ob (lItems (fz d)) fun xs => ob (itemsOf (fz d2)) fun ys => some (.ok (zipD xs ys) rs2)
def evOr : Es → List D → Option (Res D)
  | .nil, rs => some (.ok (.bl false) rs)
  | .cons a r, rs => Res.bd (evE a false rs) fun d rs1 => ob (asBl d) fun b => if b then some (.ok (.bl true) rs1) else evOr r rs1
end
end Pv

set_option maxHeartbeats 1000000
namespace Pv
open PySem PySem.Spec PyProof.Rows L2

/-! ### where the code stands -/
structure Ce where
  N : List Str
  sc : Scope
  fn : Str → Bool
structure Good (X : Cx) (W : WX) (c : Ce) (km : Nat) : Prop where
  fine : Fine X
  tk : Takes X W
  room : Room km X.A
  N : X.N = c.N
  sc : X.env.scope = c.sc
  fn : ∀ x, c.fn x = true → X.fn x = true
/-- a look at an expression that changes nothing -/
def SatP (X : Cx) (t : TE) (ev : List D → Option D) : Prop :=
  ∀ rs d, ev rs = some d → ∀ (sg : L2.St) (G H : Hp) (ts : List D) (tv : List V) (fp : FP) (Q : VK), R X.K X.mg G H ts tv rs sg fp → (∀ v, Vw X.K X.mg H d v → Q v H) → t sg H Q
def SatPT (X : Cx) (t : TT) (ev : List D → Option D) : Prop :=
  ∀ rs d b, ev rs = some d → dT d = some b → ∀ (sg : L2.St) (G H : Hp) (ts : List D) (tv : List V) (fp : FP) (Q : Bool → Hp → Prop), R X.K X.mg G H ts tv rs sg fp → Q b H → t sg H Q
def evT (m : E) (rs : List D) : Option (Res Bool) := Res.bd (evE m false rs) fun d rs1 => ob (dT d) fun b => some (.ok b rs1)
structure SE (X : Cx) (W : WX) (e : Expr) (m : E) : Prop where
  ex : ∃ t, PE X e t ∧ (∀ mv, Sat X W t (evE m mv)) ∧ ∀ s, slotOf m = some s → t = tVar s
structure SP (X : Cx) (e : Expr) (m : E) : Prop where
  ex : ∃ t, PE X e t ∧ SatP X t (evP m)
structure ST (X : Cx) (W : WX) (e : Expr) (m : E) : Prop where
  ex : ∃ t, PT X e t ∧ SatT X W t (evT m)
structure SPT (X : Cx) (e : Expr) (m : E) : Prop where
  ex : ∃ t, PT X e t ∧ SatPT X t (evP m)
theorem ob_some {A B : Type} {r : Option A} {f : A → Option B} {b : B} (h : ob r f = some b) : ∃ a, r = some a ∧ f a = some b := by
  cases r with
  | none => cases h
  | some a => exact ⟨a, rfl, h⟩
theorem scOnly_some {r : Option D} {d : D} (h : scOnly r = some d) : r = some d ∧ isSc d = true := by
  cases r with
  | none => cases h
  | some x =>
    simp only [scOnly] at h
    split at h
    · cases h; exact ⟨rfl, by assumption⟩
    · cases h
theorem bd_some {A B : Type} {r : Option (Res A)} {f : A → List D → Option (Res B)} {b : Res B} (h : Res.bd r f = some b) : (∃ a rs, r = some (.ok a rs) ∧ f a rs = some b) ∨ ∃ x rs, r = some (.exc x rs) ∧ b = .exc x rs := by
  cases r with
  | none => cases h
  | some r =>
    cases r with
    | ok a rs => exact .inl ⟨a, rs, rfl, h⟩
    | exc x rs => cases h; exact .inr ⟨x, rs, rfl, rfl⟩

section
variable {K : Fr} {mg : Str → Option Value} {G G' H H' : Hp} {fp f1 f2 : FP} {ts : List D} {tv : List V} {rs : List D} {sg : L2.St}
theorem reps_item : ∀ {xs : List D} {vs : List V} {fp : FP} {j : Nat} {c : D}, Reps K mg G H xs vs fp → xs[j]? = some c → ∃ w f1, vs[j]? = some w ∧ Rep K mg G H c w f1 ∧ ∀ a, f1 a → fp a
  | x :: xs, v :: vs, fp, 0, c, h, e => by
    cases e
    simp only [Reps] at h
    obtain ⟨g1, g2, k1, k2, k3, k4⟩ := h
    exact ⟨v, g1, rfl, k1, fun a z => (k4 a).2 (.inl z)⟩
  | x :: xs, v :: vs, fp, j + 1, c, h, e => by
    simp only [Reps] at h
    obtain ⟨g1, g2, k1, k2, k3, k4⟩ := h
    obtain ⟨w, f1, q1, q2, q3⟩ := reps_item (j := j) k2 (by simpa using e)
    exact ⟨w, f1, by simpa using q1, q2, fun a z => (k4 a).2 (.inr (q3 a z))⟩
  | [], _, _, _, _, _, e => by simp at e
  | _ :: _, [], _, _, _, h, _ => by simp only [Reps] at h
/-- one item frozen in its place -/
theorem reps_fzItem : ∀ {xs : List D} {vs : List V} {fp : FP} {j : Nat} {c : D}, Reps K mg G H xs vs fp → xs[j]? = some c → ∃ w f1 f2, vs[j]? = some w ∧ Rep K mg G H c w f1 ∧ (∀ a, f1 a → ¬ f2 a) ∧ (∀ a, fp a ↔ (f1 a ∨ f2 a)) ∧
    ∀ G' : Hp, (∀ a o, G a = some o → G' a = some o) → (∀ a o, f1 a → H a = some o → G' a = some o) → Reps K mg G' H (xs.set j (fz c)) vs f2
  | x :: xs, v :: vs, fp, 0, c, h, e => by
    cases e
    simp only [Reps] at h
    obtain ⟨g1, g2, k1, k2, k3, k4⟩ := h
    refine ⟨v, g1, g2, rfl, k1, k3, k4, fun G' c1 c2 => ?_⟩
    simp only [List.set_cons_zero, Reps]
    exact ⟨_, g2, rep_fz c1 x c2 k1, reps_mono c1 (fun _ _ h => h) xs (fun _ _ _ h => h) k2, fun _ z => z.elim, fun a => by simp⟩
  | x :: xs, v :: vs, fp, j + 1, c, h, e => by
    simp only [Reps] at h
    obtain ⟨g1, g2, k1, k2, k3, k4⟩ := h
    obtain ⟨w, f1, f2, q1, q2, q3, q4, q5⟩ := reps_fzItem (j := j) k2 (by simpa using e)
    refine ⟨w, f1, fun a => g1 a ∨ f2 a, by simpa using q1, q2, fun a ha hb => ?_, fun a => ?_, fun G' c1 c2 => ?_⟩
    · rcases hb with hb | hb
      · exact k3 a hb ((q4 a).2 (.inl ha))
      · exact q3 a ha hb
    · rw [k4 a, q4 a]
      constructor
      · rintro (z | z | z)
        · exact .inr (.inl z)
        · exact .inl z
        · exact .inr (.inr z)
      · rintro (z | z | z)
        · exact .inr (.inl z)
        · exact .inl z
        · exact .inr (.inr z)
    · simp only [List.set_cons_succ, Reps]
      exact ⟨g1, f2, rep_mono c1 (fun _ _ h => h) x (fun _ _ _ h => h) k1, q5 G' c1 c2, fun a ha hb => k3 a ha ((q4 a).2 (.inr hb)), fun _ => Iff.rfl⟩
  | [], _, _, _, _, _, e => by simp at e
  | _ :: _, [], _, _, _, h, _ => by simp only [Reps] at h
theorem atI_ix {α : Type} {xs : List α} {k : Int} {c : α} (h : atI xs k = some c) : ∃ j, ixN xs.length k = some j ∧ xs[j]? = some c := by
  unfold atI at h
  exact Option.bind_eq_some_iff.mp h
theorem atI_of {α β : Type} {xs : List α} {ys : List β} {k : Int} {j : Nat} {c : β} (e : xs.length = ys.length) (h1 : ixN xs.length k = some j) (h2 : ys[j]? = some c) : atI ys k = some c := by
  unfold atI
  rw [← e, h1]; exact h2
/-- what a list or tuple holds -/
theorem rep_items {d : D} {v : V} {xs : List D} (h : Rep K mg G H d v fp) (hg : ∀ a o, G a = some o → H a = some o) (e : itemsOf d = some xs) : ∃ a vs f, v = .ref a ∧ (SqL K H a vs ∨ SqT K H a vs) ∧ Reps K mg G H xs vs f ∧ (∀ a, f a → fp a) ∧
    ∀ (G' : Hp) (ys : List D) (f' : FP), (∀ a o, G a = some o → G' a = some o) → Reps K mg G' H ys vs f' → (∀ a, f' a → f a) → ∃ f5 : FP, Rep K mg G' H (withItems d ys) v f5 ∧ (∀ a, f5 a → fp a) ∧ ∀ a, f5 a → f' a ∨ ¬ f a := by
  cases d with
  | tup ys =>
    cases e
    simp only [Rep] at h
    obtain ⟨a, vs, e1, h1, h2⟩ := h
    refine ⟨a, vs, fp, e1, .inr h1, h2, fun _ z => z, fun G' ys f' _ k1 k2 => ⟨f', ?_, k2, fun _ z => .inl z⟩⟩
    simp only [withItems, Rep]
    exact ⟨a, vs, e1, h1, k1⟩
  | lst o ys =>
    cases e
    cases o with
    | true =>
      simp only [Rep] at h
      obtain ⟨a, vs, fp', e1, h1, h2, h3, h4⟩ := h
      refine ⟨a, vs, fp', e1, .inl (.inl (.inl h1)), h2, fun a z => (h4 a).2 (.inr z), fun G' ys f' _ k1 k2 => ⟨fun b => b = a ∨ f' b, ?_, fun b z => (h4 b).2 (z.imp id (k2 b)), fun b z => z.elim (fun e => .inr (by rw [e]; exact h3)) .inl⟩⟩
      simp only [withItems, Rep]
      exact ⟨a, vs, f', e1, h1, k1, fun z => h3 (k2 a z), fun _ => Iff.rfl⟩
    | false =>
      simp only [Rep] at h
      obtain ⟨a, vs, e1, h1, h2, h3⟩ := h
      refine ⟨a, vs, fp, e1, .inl ?_, h2, fun _ z => z, fun G' ys f' hG k1 k2 => ⟨f', ?_, k2, fun _ z => .inl z⟩⟩
      · rcases h1 with (h1 | ⟨o, h1⟩) | h1
        · exact .inl (.inl (hg _ _ h1))
        · exact .inl (.inr ⟨o, hg _ _ h1⟩)
        · exact .inr h1
      · simp only [withItems, Rep]
        refine ⟨a, vs, e1, ?_, k1, fun b z => h3 b (k2 b z)⟩
        rcases h1 with (h1 | ⟨o, h1⟩) | h1
        · exact .inl (.inl (hG _ _ h1))
        · exact .inl (.inr ⟨o, hG _ _ h1⟩)
        · exact .inr h1
  | _ => cases e
/-- an item of what lies on top, in its place -/
theorem R.item {d c : D} {v : V} {xs : List D} {k : Int} (r : R K mg G H (d :: ts) (v :: tv) rs sg fp) (e : itemsOf d = some xs) (ek : atI xs k = some c) :
    ∃ a vs w, v = .ref a ∧ (SqL K H a vs ∨ SqT K H a vs) ∧ atI vs k = some w ∧ ∃ fp', R K mg G H (c :: ts) (w :: tv) rs sg fp' ∧ Step K G H fp G H fp' := by
  obtain ⟨j, hj, ej⟩ := atI_ix ek
  obtain ⟨f1, f2, h1, r2, dj, e2⟩ := r.top
  obtain ⟨a, vs, f3, ev, hs, hr, hf, _⟩ := rep_items h1 (fun a o h => (r.sub a o h).1) e
  obtain ⟨w, f4, q1, q2, q3⟩ := reps_item hr ej
  refine ⟨a, vs, w, ev, hs, atI_of (reps_len hr) hj q1, _, r2.push q2 (fun a ha => dj a (hf a (q3 a ha))) (fun a o h z => (r.sub a o h).2 ((e2 a).2 (.inl (hf a (q3 a z))))), .less fun a z => ?_⟩
  rcases z with z | z
  · exact (e2 a).2 (.inl (hf a (q3 a z)))
  · exact (e2 a).2 (.inr z)
/-- .. and the one that is looked at is frozen there -/
theorem R.fzItem {d c : D} {v : V} {xs : List D} {k : Int} (r : R K mg G H (d :: ts) (v :: tv) rs sg fp) (e : itemsOf d = some xs) (ek : atI xs k = some c) :
    ∃ a vs w, v = .ref a ∧ (SqL K H a vs ∨ SqT K H a vs) ∧ atI vs k = some w ∧ ∃ G' fp', R K mg G' H (Pv.fz c :: setAt d xs k (Pv.fz c) :: ts) (w :: v :: tv) rs sg fp' ∧ Step K G H fp G' H fp' := by
  obtain ⟨j, hj, hc⟩ := atI_ix ek
  obtain ⟨f1, f2, h1, r2, dj, e2⟩ := r.top
  have gh : ∀ a o, G a = some o → H a = some o := fun a o h => (r.sub a o h).1
  obtain ⟨a, vs, f3, ev, hs, hr, hf, mk⟩ := rep_items h1 gh e
  obtain ⟨w, g1, g2, q1, q2, q3, q4, q5⟩ := reps_fzItem hr hc
  obtain ⟨G', c1, c2, c3⟩ := wider G H g1
  have le1 : ∀ a, g1 a → f1 a := fun a z => hf a ((q4 a).2 (.inl z))
  have cG : ∀ a o, G a = some o → G' a = some o := fun a o h => c1 a o h fun z => (r.sub a o h).2 ((e2 a).2 (.inl (le1 a z)))
  obtain ⟨f5, k1, k2, k3⟩ := mk G' _ g2 cG (q5 G' cG c2) fun a z => (q4 a).2 (.inr z)
  have n5 : ∀ a, f5 a → ¬ g1 a := fun a z y => by
    rcases k3 a z with p | p
    · exact q3 a y p
    · exact p ((q4 a).2 (.inl y))
  have hG' : ∀ a o, G' a = some o → H a = some o ∧ ¬ f2 a ∧ ¬ f5 a := fun a o h => by
    rcases c3 a o h with ⟨z, y⟩ | ⟨z, y⟩
    · have s := (r.sub a o z).2
      exact ⟨gh a o z, fun p => s ((e2 a).2 (.inr p)), fun p => s ((e2 a).2 (.inl (k2 a p)))⟩
    · exact ⟨y, fun p => dj a (le1 a z) p, fun p => n5 a p z⟩
  have r3 := R.toG (G' := G') (H' := H) r2 cG (fun _ _ h => h) (fun _ _ _ h => h) (fun a o h => (hG' a o h).1) fun a o h => (hG' a o h).2.1
  have r4 := r3.push k1 (fun a ha hb => dj a (k2 a ha) hb) fun a o h => (hG' a o h).2.2
  have es : setAt d xs k (Pv.fz c) = withItems d (xs.set j (Pv.fz c)) := by simp only [setAt, hj]
  rw [es]
  refine ⟨a, vs, w, ev, hs, atI_of (reps_len hr) hj q1, G', _, r4.pushE (rep_fz cG c c2 q2), ⟨fun _ _ h _ => h, fun _ _ h => h, fun a z => .inr ?_, cG, fun a o h => ?_⟩⟩
  · rcases z with z | z
    · exact (e2 a).2 (.inl (k2 a z))
    · exact (e2 a).2 (.inr z)
  · rcases c3 a o h with ⟨z, _⟩ | ⟨z, _⟩
    · exact .inl z
    · exact .inr (.inr ((e2 a).2 (.inl (le1 a z))))
end
end Pv

set_option maxHeartbeats 2000000
namespace Pv
open PySem PySem.Spec PyProof.Rows L2

section
variable {X : Cx} {W : WX} {c : Ce} {km : Nat}
theorem vw_slot {G H : Hp} {ts : List D} {tv : List V} {rs : List D} {sg : L2.St} {fp : FP} {s : Nat} {d : D} (hR : R X.K X.mg G H ts tv rs sg fp) (e : rs[s]? = some d) (u : isUn d = false) : ∃ v, sg[s]? = some (some v) ∧ Vw X.K X.mg H (fz d) v := by
  obtain ⟨v, hv⟩ := hR.val e (by intro z; rw [z] at u; cases u)
  exact ⟨v, hv, hR.view e hv⟩
theorem satP_var {s : Nat} : SatP X (tVar s) (evP (.var s)) := by
  intro rs d e sg G H ts tv fp Q hR h
  simp only [evP] at e
  split at e
  · rename_i d' q
    split at e
    · cases e
    · rename_i u
      cases e
      obtain ⟨v, hv, w⟩ := vw_slot hR q (by simpa using u)
      exact ⟨v, hv, h v w⟩
  · cases e
theorem sat_var {s : Nat} (mv : Bool) : Sat X W (tVar s) (evE (.var s) mv) := by
  intro rs r e sg G H ts tv fp Q hR h1 h2
  simp only [evE] at e
  obtain ⟨d, q, e⟩ := ob_some e
  split at e
  · cases e
  · rename_i u
    obtain ⟨v, hv⟩ := hR.val q (by intro z; rw [z] at u; exact u rfl)
    split at e
    · cases e
      exact ⟨v, hv, h1 d _ rfl v G H fp .refl (hR.take q hv)⟩
    · cases e
      obtain ⟨G', f', r', st⟩ := hR.slotFz q hv
      exact ⟨v, hv, h1 _ _ rfl v G' H f' st r'⟩
theorem sat_push {t : TE} {d : D} {v : V} (hr : ∀ G H, Rep X.K X.mg G H d v (fun _ => False)) (ht : ∀ sg H Q, Q v H → t sg H Q) : Sat X W t (fun rs => some (.ok d rs)) := by
  intro rs r e sg G H ts tv fp Q hR h1 h2
  cases e
  exact ht _ _ _ (h1 d rs rfl v G H fp .refl (hR.pushE (hr G H)))
theorem satP_push {t : TE} {d : D} {v : V} (hr : ∀ G H, Rep X.K X.mg G H d v (fun _ => False)) (ht : ∀ sg H Q, Q v H → t sg H Q) : SatP X t (fun _ => some d) := by
  intro rs r e sg G H ts tv fp Q hR h
  cases e
  exact ht _ _ _ (h v (hr H H))
/-- the operators' reading -/
def rD2 (X : Cx) (p : P2) : R2 := fun x y H Q => ∃ a b d, Vw X.K X.mg H a x ∧ Vw X.K X.mg H b y ∧ d2 p a b = some d ∧ ∀ v, isSc d = true → Vw X.K X.mg H d v → Q v H
theorem satP_op2 {p : P2} {ta tb : TE} {a b : E} (ha : SatP X ta (evP a)) (hb : SatP X tb (evP b)) : SatP X (tOp (rD2 X p) ta tb) (evP (.op2 p a b)) := by
  intro rs d e sg G H ts tv fp Q hR h
  simp only [evP] at e
  obtain ⟨x, ex, e⟩ := ob_some e
  obtain ⟨y, ey, e⟩ := ob_some e
  obtain ⟨e, hs⟩ := scOnly_some e
  exact ha rs x ex sg G H ts tv fp _ hR fun v hv => hb rs y ey sg G H ts tv fp _ hR fun w hw => ⟨x, y, d, hv, hw, e, fun z _ hz => h z hz⟩
/-- an operand as it stands in its slot, or reckoned -/
def Opd (X : Cx) (W : WX) (t : TE) (m : E) : Prop := match slotOf m with
  | some s => t = tVar s
  | none => Sat X W t (evE m false)
theorem SE.opd {e : Expr} {m : E} (h : SE X W e m) : ∃ t, PE X e t ∧ Opd X W t m := by
  obtain ⟨t, h1, h2, h3⟩ := h.ex
  refine ⟨t, h1, ?_⟩
  unfold Opd
  cases q : slotOf m with
  | none => exact h2 false
  | some s => exact h3 s q
theorem sat_op2 {p : P2} {ta tb : TE} {a b : E} (ha : Opd X W ta a) (hb : Opd X W tb b) : Sat X W (tOp (rD2 X p) ta tb) (satOp (two (d2 p)) (a1 (slotOf a) (evE a false) (a1 (slotOf b) (evE b false) a0))) := by
  refine sat_op (fun Q vs H => match vs with
    | [x, y] => rD2 X p x y H Q
    | _ => False) (satA_cons ha (satA_cons hb satA_nil)) (fun Q vs H h => ?_) fun sg H Q h => h
  obtain ⟨ds, d, hv, e, hs, q⟩ := h
  match ds, hv, e with
  | [a, b], hv, e =>
    obtain ⟨v, w, rfl, h1, h2⟩ := vws2 hv
    exact ⟨a, b, d, h1, h2, e, fun v _ hv => q v hv⟩
def rNeg (X : Cx) : V → Hp → VK → Prop := fun x H Q => ∃ i, x = .int i ∧ Q (.int (-i)) H
theorem sat_neg {ta : TE} {a : E} (ha : Opd X W ta a) : Sat X W (tUn (rNeg X) ta) (satOp (one dNeg) (a1 (slotOf a) (evE a false) a0)) := by
  refine sat_op (fun Q vs H => match vs with
    | [x] => rNeg X x H Q
    | _ => False) (satA_cons ha satA_nil) (fun Q vs H h => ?_) fun sg H Q h => h
  obtain ⟨ds, d, hv, e, hs, q⟩ := h
  match ds, hv, e with
  | [x], hv, e =>
    obtain ⟨v, rfl, h1⟩ := vws1 hv
    cases x with
    | int i =>
      cases e
      exact ⟨i, vw_int h1, q _ rep_int⟩
    | _ => cases e
theorem satP_neg {ta : TE} {a : E} (ha : SatP X ta (evP a)) : SatP X (tUn (rNeg X) ta) (evP (.neg a)) := by
  intro rs d e sg G H ts tv fp Q hR h
  simp only [evP] at e
  obtain ⟨x, ex, e⟩ := ob_some e
  cases x with
  | int i =>
    cases e
    exact ha rs _ ex sg G H ts tv fp _ hR fun v hv => ⟨i, vw_int hv, h _ rep_int⟩
  | _ => cases e
theorem pe_neg {e : Expr} {ta : TE} {pos : Pos} (ha : PE X e ta) : PE X (.UnaryOp .USub e pos) (tUn (rNeg X) ta) := pe_un un_neg ha
/-- a value, of which a bool is wanted -/
theorem sat_bl {t : TE} {u : TE} {ev : List D → Option (Res D)} {f : Bool → D} (h : Sat X W t ev) (hf : ∀ b, isSc (f b) = true) (vf : Bool → V) (hv : ∀ b G H, Rep X.K X.mg G H (f b) (vf b) (fun _ => False))
    (hu : ∀ sg H Q, t sg H (fun x H1 => ∃ k, x = .bl k ∧ Q (vf k) H1) → u sg H Q) : Sat X W u (fun rs => Res.bd (ev rs) fun d rs1 => ob (asBl d) fun b => some (.ok (f b) rs1)) := by
  intro rs r e sg G H ts tv fp Q hR h1 h2
  refine hu sg H Q ?_
  rcases bd_some e with ⟨d, rs1, q, e⟩ | ⟨x, rs1, q, e⟩
  · obtain ⟨b, eb, e⟩ := ob_some e
    cases e
    refine h rs _ q sg G H ts tv fp _ hR (fun d' rs' er v G' H' f' st r' => ?_) (fun x rs' er => by cases er)
    cases er
    cases d with
    | bl b' =>
      have eb : b' = b := Option.some.inj eb
      subst eb
      obtain ⟨f2, r2, st2⟩ := r'.drop
      refine ⟨b', vw_bl r'.viewT, h1 _ _ rfl _ _ _ _ (st.trans st2) (r2.pushE (hv b' G' H'))⟩
    | _ => cases eb
  · subst e
    exact h rs _ q sg G H ts tv fp _ hR (fun d' rs' er => by cases er) (fun x' rs' er => by cases er; exact h2 _ _ rfl)
theorem dT_fz (d : D) : dT (fz d) = dT d := by
  cases d with
  | tup xs => cases xs <;> rfl
  | lst o xs => cases xs <;> rfl
  | _ => rfl
/-- a pure one, kept if it has no lists -/
theorem sat_pk {t : TE} {a : E} (h : SatP X t (evP a)) (mv : Bool) : Sat X W t (evE (.pk a) mv) := by
  intro rs r e sg G H ts tv fp Q hR h1 h2
  simp only [evE] at e
  obtain ⟨d, q, e⟩ := ob_some e
  obtain ⟨q, hs⟩ := scOnly_some q
  cases e
  exact h rs d q sg G H ts tv fp Q hR fun v hv => h1 d rs rfl v G H fp .refl (hR.pushE (sc_any hs hv))
theorem satPT_of {t : TE} {a : E} (h : SatP X t (evP a)) : SatPT X (fun sg H Q => t sg H fun x H' => ∃ k, TruV X.K x H' k ∧ Q k H') (evP a) := by
  intro rs d b e eb sg G H ts tv fp Q hR q
  exact h rs d e sg G H ts tv fp _ hR fun v hv => ⟨b, doesT hv eb, q⟩
theorem satT_of {t : TE} {a : E} (h : Sat X W t (evE a false)) : SatT X W (fun sg H Q => t sg H fun x H' => ∃ k, TruV X.K x H' k ∧ Q k H') (evT a) := by
  intro rs r e sg G H ts tv fp Q hR h1 h2
  unfold evT at e
  rcases bd_some e with ⟨d, rs1, q, e⟩ | ⟨x, rs1, q, e⟩
  · obtain ⟨b, eb, e⟩ := ob_some e
    cases e
    refine h rs _ q sg G H ts tv fp _ hR (fun d' rs' er v G' H' f' st r' => ?_) (fun x rs' er => by cases er)
    cases er
    obtain ⟨f2, r2, st2⟩ := r'.drop
    have tv := doesT (X := X) (b := b) r'.viewT (by rw [dT_fz]; exact eb)
    exact ⟨b, tv, h1 _ _ rfl _ _ _ (st.trans st2) r2⟩
  · subst e
    exact h rs _ q sg G H ts tv fp _ hR (fun d' rs' er => by cases er) (fun x' rs' er => by cases er; exact h2 _ _ rfl)
/-- a pure test -/
theorem satT_pk {t : TT} {a : E} (h : SatPT X t (evP a)) : SatT X W t (evT (.pk a)) := by
  intro rs r e sg G H ts tv fp Q hR h1 h2
  unfold evT at e
  simp only [evE] at e
  rcases bd_some e with ⟨d, rs1, q, e⟩ | ⟨x, rs1, q, e⟩
  · obtain ⟨b, eb, e⟩ := ob_some e
    cases e
    obtain ⟨d', q', q⟩ := ob_some q
    cases q
    obtain ⟨q', hs⟩ := scOnly_some q'
    exact h rs d b q' eb sg G H ts tv fp Q hR (h1 b _ rfl G H fp .refl hR)
  · obtain ⟨d', q', q⟩ := ob_some q
    cases q

/-! ### the text against the language -/
def visB (sc : Scope) (x : Str) : Bool := (match sc.names.lookup x with
  | some .local => true
  | some .cell => true
  | some .free => true
  | _ => false) && (x != ("__debug__" : Str)) && (x != ("__classdict__" : Str))
def glB (sc : Scope) (x : Str) : Bool := (match sc.names.lookup x with
  | some .globalImplicit => true
  | _ => false) && (x != ("__debug__" : Str)) && (x != ("__name__" : Str))
def conB : D → Const → Bool
  | .non, .none => true
  | .bl b, .bool c => b == c
  | .int i, .int j => decide (i = j)
  | .str x, .str y => decide (x = y)
  | _, _ => false
def binB : P2 → Operator → Bool
  | .add, .Add => true
  | .sub, .Sub => true
  | .mul, .Mult => true
  | .fdiv, .FloorDiv => true
  | .mod, .Mod => true
  | .pow, .Pow => true
  | _, _ => false
def cmpB : P2 → CmpOp → Bool
  | .lt, .Lt => true
  | .le, .LtE => true
  | .gt, .Gt => true
  | .ge, .GtE => true
  | .eq, .Eq => true
  | .ne, .NotEq => true
  | .isn, .Is => true
  | .notn, .IsNot => true
  | _, _ => false
def nst : Expr → Bool
  | .Starred _ _ => false
  | _ => true
def nsl : Expr → Bool
  | .Slice _ _ _ _ => false
  | _ => true
def nempty {A : Type} : List A → Bool
  | [] => false
  | _ => true
def tyOkB (T : String) : Bool := ["int", "bool", "str", "list", "tuple"].contains T
mutual
/-- may stand as a test -/
def tok : E → Bool
  | .ite _ _ _ => false
  | .lnot a => tok a
  | .land as => toks as
  | .lor as => toks as
  | .pk a => pok a
  | _ => true
def toks : Es → Bool
  | .nil => true
  | .cons a r => tok a && toks r
/-- a look that may stand as a test -/
def pok : E → Bool
  | .var _ => true
  | .con _ => true
  | .glo _ _ => true
  | .op2 _ _ _ => true
  | .neg _ => true
  | .fnc _ _ => true
  | .isi _ _ => true
  | .ix _ _ => true
  | _ => false
end
def locB (c : Ce) (x : Str) : Bool := match c.sc.names.lookup x with
  | some .local => true
  | some .cell => c.fn x
  | _ => false
def nmB (c : Ce) (i : Nat) (x : Str) : Bool := decide (c.N[i]? = some x) && locB c x
def chkNs (c : Ce) : List Nat → List Expr → Bool
  | [], [] => true
  | i :: is, .Name x _ :: es => nmB c i x && chkNs c is es
  | _, _ => false
def chkTg (c : Ce) : Tg → Expr → Bool
  | .nm i, .Name x _ => nmB c i x
  | .tp is, .Tuple es _ _ => chkNs c is es
  | _, _ => false
def isTup : Expr → Bool
  | .Tuple _ _ _ => true
  | _ => false
def needTup : Iter → Bool
  | .enm _ => true
  | .zip _ _ => true
  | _ => false
def nsetE : Expr → Bool
  | .Set _ _ _ => false
  | _ => true
/-- the names that a block has of its own -/
def ownP (N : List Str) : List Nat → List (Str × Nat)
  | [] => []
  | i :: is => (N.getD i "", i) :: ownP N is
def tgIn (own : List Nat) : Tg → Bool
  | .nm i => own.contains i
  | .tp is => is.all fun i => own.contains i
/-- none or one test -/
def toks1 : Es → Bool
  | .nil => true
  | .cons a .nil => tok a
  | _ => false
/-- the place of a comprehension's block -/
def Ce.blk (c : Ce) (scope : Scope) : Ce := ⟨c.N, L2.relS scope c.sc, fun x => scope.names.lookup x == some .cell⟩
mutual
def chkE (c : Ce) : E → Expr → Bool
  | .var i, .Name x _ => decide (c.N[i]? = some x) && visB c.sc x
  | .mv i, .Name x _ => decide (c.N[i]? = some x) && visB c.sc x
  | .con d, .Constant k _ _ => conB d k
  | .glo x _, .Name y _ => decide (x = y) && glB c.sc x
  | .op2 p a b, .BinOp l o r _ => binB p o && (chkE c a l && chkE c b r)
  | .op2 p a b, .Compare l [o] [r] _ => cmpB p o && (chkE c a l && chkE c b r)
  | .neg a, .UnaryOp .USub x _ => chkE c a x
  | .lnot a, .UnaryOp .Not x _ => chkE c a x
  | .land as, .BoolOp .And es _ => nempty es && chkL c as es
  | .lor as, .BoolOp .Or es _ => nempty es && chkL c as es
  | .ite t a b, .IfExp x y z _ => (tok t && chkE c t x) && (chkE c a y && chkE c b z)
  | .chn p q a b d, .Compare l [o1, o2] [m, r] _ => (cmpB p o1 && cmpB q o2) && (chkE c a l && (chkE c b m && chkE c d r))
  | .fnc p as, .Call (.Name x _) es [] _ => (decide (x = fnN p) && glB c.sc x) && (nempty es && chkL c as es)
  | .isi a T, .Call (.Name x _) [e, .Name y _] [] _ => ((decide (x = ("isinstance" : Str)) && glB c.sc x) && ((decide (y = Str.ofString T) && glB c.sc y) && tyOkB T)) && (nst e && chkE c a e)
  | .call f _ as, .Call (.Name x _) es [] _ => (decide (x = f) && glB c.sc x) && (nempty es && chkL c as es)
  | .tup as, .Tuple es _ _ => chkL c as es
  | .lst as, .List es _ => chkL c as es
  | .ix a i, .Subscript e s _ => nsl s && (chkE c a e && chkE c i s)
  | .pk a, e => chkE c a e
  | .cpy a, .Call (.Name x _) [e] [] _ => (decide (x = ("list" : Str)) && glB c.sc x) && (nst e && chkE c a e)
  | .fld s C f, .Attribute (.Name x _) n _ => (decide (c.N[s]? = some x) && visB c.sc x) && decide (n = f)
  | .meth s C m _ as, .Call (.Attribute (.Name x _) n ap) es [] cp => (((decide (c.N[s]? = some x) && visB c.sc x) && ((ap.endLine == cp.line) && decide (es.length < 20))) && decide (n = m)) && chkL c as es
  | .make C _ as, .Call (.Name x _) es [] _ => (decide (x = C) && glB c.sc x) && (nempty es && chkL c as es)
  | .tupc a, .Call (.Name x _) [e] [] _ => (decide (x = ("tuple" : Str)) && glB c.sc x) && (nst e && chkE c a e)
  | .lc t it cs e own, .ListComp elt [⟨tg, i, ifs, 0⟩] scope _ => ((L2.blkC c.N c.sc scope (ownP c.N own) && tgIn own t) && ((!needTup it || isTup tg) && chkTg (c.blk scope) t tg)) && (chkI c it i && (chkL (c.blk scope) cs ifs && (toks1 cs && chkE (c.blk scope) e elt)))
  | .lenset t it cs e own, .Call (.Name x _) [.SetComp elt [⟨tg, i, ifs, 0⟩] scope _] [] _ => (decide (x = ("len" : Str)) && glB c.sc x) && (((L2.blkC c.N c.sc scope (ownP c.N own) && tgIn own t) && ((!needTup it || isTup tg) && chkTg (c.blk scope) t tg)) && (chkI c it i && (chkL (c.blk scope) cs ifs && (toks1 cs && chkE (c.blk scope) e elt))))
  | .sorted a, .Call (.Name x _) [e] [] _ => (decide (x = ("sorted" : Str)) && glB c.sc x) && (nst e && chkE c a e)
  | .mvix s i, .Subscript (.Name x _) sl _ => nsl sl && ((decide (c.N[s]? = some x) && visB c.sc x) && chkE c i sl)
  | .lenO s _ _, .Call (.Name x _) [.Name y _] [] _ => (decide (x = ("len" : Str)) && glB c.sc x) && (decide (c.N[s]? = some y) && visB c.sc y)
  | .itmO s _ _ as, .Subscript (.Name x _) sl _ => (nsl sl && (decide (c.N[s]? = some x) && visB c.sc x)) && chkL c as [sl]
  | _, _ => false
def chkI (c : Ce) : Iter → Expr → Bool
  | .rng1 as, .Call (.Name x _) [e] [] _ => (decide (x = ("range" : Str)) && glB c.sc x) && chkL c as [e]
  | .rng2 as, .Call (.Name x _) [e1, e2] [] _ => (decide (x = ("range" : Str)) && glB c.sc x) && chkL c as [e1, e2]
  | .seqL a, e => nsetE e && chkE c a e
  | .enm a, .Call (.Name x _) [e] [] _ => (decide (x = ("enumerate" : Str)) && glB c.sc x) && (nst e && chkE c a e)
  | .zip a b, .Call (.Name x _) [e1, e2] [] _ => (decide (x = ("zip" : Str)) && glB c.sc x) && ((nst e1 && chkE c a e1) && (nst e2 && chkE c b e2))
  | _, _ => false
def chkL (c : Ce) : Es → List Expr → Bool
  | .nil, [] => true
  | .cons a r, e :: es => nst e && (chkE c a e && chkL c r es)
  | _, _ => false
end
/-! ### what the text leans on -/
/-- the program at large: what a text leans on -/
structure Gv where
  prog : Program
  w : World
  K : Fr
  mg : Str → Option Value
  base : Heap
abbrev gvOf (X : Cx) : Gv := ⟨X.prog, X.w, X.K, X.mg, X.base⟩
structure FnHas (X : Gv) (km : Nat) (x : Str) (f : Fn) : Prop where
  ex : ∃ (k : Nat) (a : Addr) (fd : FuncData) (ps : List Str), k ≤ km ∧ X.mg x = some (.ref a) ∧ PySem.W.keepIn X.K (.ref a) = true ∧ FnOk X.prog X.w X.K X.mg X.base (L2.CX X.prog X.w) k a fd ps (spOf X.K X.mg f) ∧ Binds X.K fd ps []
structure GlHas (X : Gv) (x : Str) (d : D) : Prop where
  ex : ∃ v u, X.mg x = some u ∧ RelV v u ∧ ∀ G H, Rep X.K X.mg G H d v (fun _ => False)
/-- a class whose instances' fields are read -/
structure ClsHas (X : Gv) (C : Str) (fs : List Str) : Prop where
  ex : ∃ Ca, X.mg C = some (.ref Ca) ∧ Cls X.K Ca ∧ ∀ f ∈ fs, NoAttr X.K Ca f
structure MethHas (X : Gv) (km : Nat) (C m : Str) (f : Fn) : Prop where
  ex : ∃ (Ca : Addr) (k : Nat) (a : Addr) (fd : FuncData) (ps : List Str), X.mg C = some (.ref Ca) ∧ Cls X.K Ca ∧ Meth X.K Ca m a ∧ k ≤ km ∧ FnOk X.prog X.w X.K X.mg X.base (L2.CX X.prog X.w) k a fd ps (spOf X.K X.mg f) ∧ Binds X.K fd ps []
structure MakeHas (X : Gv) (km : Nat) (C : Str) (f : Fn) : Prop where
  ex : ∃ (Ca : Addr) (k : Nat) (a : Addr) (fd : FuncData) (ps : List Str), X.mg C = some (.ref Ca) ∧ Mk X.K Ca a ∧ k + 1 ≤ km ∧ FnOk X.prog X.w X.K X.mg X.base (L2.CX X.prog X.w) k a fd ps (spOf X.K X.mg f) ∧ Binds X.K fd ps []
/-- a method that a builtin or a subscript asks for -/
structure SpecHas (X : Gv) (km : Nat) (C m : Str) (f : Fn) : Prop where
  ex : ∃ (Ca : Addr) (k : Nat) (a : Addr) (fd : FuncData) (ps : List Str), X.mg C = some (.ref Ca) ∧ Meth X.K Ca m a ∧ PySem.W.fnIn X.K a = true ∧ k + 1 ≤ km ∧ FnOk X.prog X.w X.K X.mg X.base (L2.CX X.prog X.w) k a fd ps (spOf X.K X.mg f) ∧ Binds X.K fd ps []
def PfHas (X : Gv) : PF → Prop
  | .gcd => X.mg "gcd" = some (.builtin "math.gcd")
  | p => X.mg (fnN p) = none
mutual
def OkE (X : Gv) (km : Nat) : E → Prop
  | .glo x d => GlHas X x d
  | .op2 _ a b => OkE X km a ∧ OkE X km b
  | .neg a => OkE X km a
  | .lnot a => OkE X km a
  | .land as => OkL X km as
  | .lor as => OkL X km as
  | .ite t a b => OkE X km t ∧ OkE X km a ∧ OkE X km b
  | .chn _ _ a b d => OkE X km a ∧ OkE X km b ∧ OkE X km d
  | .fnc p as => PfHas X p ∧ OkL X km as
  | .isi a T => (X.mg "isinstance" = none ∧ X.mg (Str.ofString T) = none) ∧ OkE X km a
  | .call x f as => FnHas X km x f ∧ OkL X km as
  | .tup as => OkL X km as
  | .lst as => OkL X km as
  | .ix a i => OkE X km a ∧ OkE X km i
  | .pk a => OkE X km a
  | .cpy a => X.mg "list" = none ∧ OkE X km a
  | .fld _ C f => ClsHas X C [f]
  | .meth _ C m f as => MethHas X km C m f ∧ OkL X km as
  | .make C f as => MakeHas X km C f ∧ OkL X km as
  | .tupc a => X.mg "tuple" = none ∧ OkE X km a
  | .lc _ it cs e _ => OkI X km it ∧ (OkL X km cs ∧ OkE X km e)
  | .lenset _ it cs e _ => X.mg "len" = none ∧ (OkI X km it ∧ (OkL X km cs ∧ OkE X km e))
  | .sorted a => X.mg "sorted" = none ∧ OkE X km a
  | .mvix _ i => OkE X km i
  | .lenO _ C f => X.mg "len" = none ∧ SpecHas X km C "__len__" f
  | .itmO _ C f as => SpecHas X km C "__getitem__" f ∧ OkL X km as
  | _ => True
def OkI (X : Gv) (km : Nat) : Iter → Prop
  | .rng1 as => X.mg "range" = none ∧ OkL X km as
  | .rng2 as => X.mg "range" = none ∧ OkL X km as
  | .seqL a => OkE X km a
  | .enm a => X.mg "enumerate" = none ∧ OkE X km a
  | .zip a b => X.mg "zip" = none ∧ (OkE X km a ∧ OkE X km b)
def OkL (X : Gv) (km : Nat) : Es → Prop
  | .nil => True
  | .cons a r => OkE X km a ∧ OkL X km r
end
end
end Pv

set_option maxHeartbeats 2000000
namespace Pv
open PySem PySem.Spec PyProof.Rows L2

section
variable {X : Cx} {W : WX} {c : Ce} {km : Nat}
theorem star_nst {e : Expr} (h : nst e = true) (r : List Expr) (env : Env) : starEach (e :: r) env = (false, eval e env) :: starEach r env := by
  cases e <;> first | rfl | (cases h)
theorem back_nst : ∀ {es : List Expr} (h : ∀ e ∈ es, nst e = true) (pos : Pos) (env : Env), (backTo pos (starEach es env)).any (·.1) = false
  | [], _, _, _ => rfl
  | e :: es, h, pos, env => by
    rw [star_nst (h e List.mem_cons_self)]
    show (false || (backTo pos (starEach es env)).any (·.1)) = false
    rw [back_nst (fun e he => h e (List.mem_cons_of_mem _ he))]; rfl
theorem plain_nsl {e : Expr} (h : nsl e = true) : PlainIx e := fun o i => by
  cases e <;> first | rfl | (cases h)
theorem pa_of {es : List Expr} {tes : List TE} (h : PEs X es tes) (hn : ∀ e ∈ es, nst e = true) : PA X es (runs tes) := pa_runs h fun e he r => star_nst (hn e he) r X.env
theorem PEs.one {e : Expr} {t : TE} (h : PE X e t) : PEs X [e] [t] := .cons h .nil

theorem vis_of {sc : Scope} {x : Str} (h : visB sc x = true) : (sc.names.lookup x = some .local ∨ sc.names.lookup x = some .cell ∨ sc.names.lookup x = some .free) ∧ (x == ("__debug__" : Str)) = false ∧ (x == ("__classdict__" : Str)) = false := by
  unfold visB at h
  rw [Bool.and_eq_true, Bool.and_eq_true] at h
  obtain ⟨⟨h1, h2⟩, h3⟩ := h
  refine ⟨?_, by simpa using h2, by simpa using h3⟩
  split at h1 <;> first | exact .inl (by assumption) | exact .inr (.inl (by assumption)) | exact .inr (.inr (by assumption)) | cases h1
theorem gl_of {sc : Scope} {x : Str} (h : glB sc x = true) : sc.names.lookup x = some .globalImplicit ∧ (x == ("__debug__" : Str)) = false ∧ x ≠ "__name__" := by
  unfold glB at h
  rw [Bool.and_eq_true, Bool.and_eq_true] at h
  obtain ⟨⟨h1, h2⟩, h3⟩ := h
  refine ⟨?_, by simpa using h2, by simpa using h3⟩
  split at h1
  · assumption
  · cases h1
theorem Good.gl (g : Good X W c km) {x : Str} (h : glB c.sc x = true) : Gl X x ∧ (x == ("__debug__" : Str)) = false ∧ x ≠ "__name__" := by
  obtain ⟨h1, h2, h3⟩ := gl_of h
  refine ⟨?_, h2, h3⟩
  show X.env.scope.names.lookup x = some .globalImplicit
  rw [g.sc]; exact h1
theorem Good.pv (g : Good X W c km) {x : Str} {i : Nat} {pos : Pos} (h : (decide (c.N[i]? = some x) && visB c.sc x) = true) : PE X (.Name x pos) (tVar i) := by
  rw [Bool.and_eq_true] at h
  obtain ⟨h1, h2, h3⟩ := vis_of h.2
  refine pe_var (by rw [g.N]; exact of_decide_eq_true h.1) ?_ h2 h3
  show X.env.scope.names.lookup x = _ ∨ _ ∨ _
  rw [g.sc]; exact h1
/-- a constant -/
theorem con_of {d : D} {k : Const} (h : conB d k = true) {n : Nat} {pos : Pos} : ∃ (t : TE) (v : V), PE X (.Constant k n pos) t ∧ (∀ G H, Rep X.K X.mg G H d v (fun _ => False)) ∧ ∀ sg H Q, Q v H → t sg H Q := by
  cases d with
  | non => cases k <;> first | (cases h; done) | exact ⟨_, .non, pe_non, fun _ _ => rep_non, fun _ _ _ q => q⟩
  | bl b => cases k <;> first | (cases h; done) | skip
            rename_i b'
            have e : b = b' := eq_of_beq h
            subst e
            exact ⟨_, .bl b, pe_bl, fun _ _ => rep_bl, fun _ _ _ q => q⟩
  | int b => cases k <;> first | (cases h; done) | skip
             rename_i b'
             have e : b = b' := of_decide_eq_true h
             subst e
             exact ⟨_, .int b, pe_int, fun _ _ => rep_int, fun _ _ _ q => q⟩
  | str b => cases k <;> first | (cases h; done) | skip
             rename_i b'
             have e : b = b' := of_decide_eq_true h
             subst e
             exact ⟨_, .str b, pe_str, fun _ _ => rep_str, fun _ _ _ q => q⟩
  | _ => cases h
/-- the operator of the text -/
theorem bin_of {p : P2} {o : Operator} (h : binB p o = true) : opF p = binaryOp o := by
  cases p <;> cases o <;> first | (cases h; done) | rfl
theorem cmp_of {p : P2} {o : CmpOp} (h : cmpB p o = true) : opF p = compareOp o ∧ o ≠ .In ∧ o ≠ .NotIn := by
  cases p <;> cases o <;> first | (cases h; done) | exact ⟨rfl, by decide, by decide⟩
theorem cmp_bl {p : P2} {o : CmpOp} (h : cmpB p o = true) {x y d : D} (e : d2 p x y = some d) : ∃ b, d = .bl b := by
  cases p <;> cases o <;> first | (cases h; done) | skip
  all_goals (unfold d2 at e; split at e <;> first | (cases e; exact ⟨_, rfl⟩) | (obtain ⟨k, _, e⟩ := Option.map_eq_some_iff.mp e; cases e; exact ⟨_, rfl⟩) | contradiction)
theorem doesR (F : Fine X) (p : P2) : OpR X (opF p) (rD2 X p) := does2 F X.mg p
theorem pe_bin (F : Fine X) {p : P2} {o : Operator} (h : binB p o = true) {a b : Expr} {ta tb : TE} {pos : Pos} (ha : PE X a ta) (hb : PE X b tb) : PE X (.BinOp a o b pos) (tOp (rD2 X p) ta tb) :=
  pe_op (by rw [← bin_of h]; exact doesR F p) ha hb
theorem pe_cmp2 (F : Fine X) {p : P2} {o : CmpOp} (h : cmpB p o = true) {a b : Expr} {ta tb : TE} {pos : Pos} (ha : PE X a ta) (hb : PE X b tb) : PE X (.Compare a [o] [b] pos) (tOp (rD2 X p) ta tb) :=
  pe_cmpR (by rw [← (cmp_of h).1]; exact doesR F p) ha hb (nomark b (cmp_of h).2.1 (cmp_of h).2.2)
theorem pt_cmp2 (F : Fine X) {p : P2} {o : CmpOp} (h : cmpB p o = true) {a b : Expr} {ta tb : TE} {pos : Pos} (ha : PE X a ta) (hb : PE X b tb) : PT X (.Compare a [o] [b] pos) (tTest (tOp (rD2 X p) ta tb)) :=
  pt_cmpR (by rw [← (cmp_of h).1]; exact doesR F p) ha hb (nomark b (cmp_of h).2.1 (cmp_of h).2.2)
/-- a test of what gives a bool -/
theorem satT_bl {t : TE} {m : E} (h : Sat X W t (evE m false)) (hb : ∀ rs d rs', evE m false rs = some (.ok d rs') → ∃ b, d = .bl b) : SatT X W (tTest t) (evT m) := by
  intro rs r e sg G H ts tv fp Q hR h1 h2
  unfold evT at e
  rcases bd_some e with ⟨d, rs1, q, e⟩ | ⟨x, rs1, q, e⟩
  · obtain ⟨b, eb, e⟩ := ob_some e
    cases e
    refine h rs _ q sg G H ts tv fp _ hR (fun d' rs' er v G' H' f' st r' => ?_) (fun x rs' er => by cases er)
    cases er
    obtain ⟨b', rfl⟩ := hb rs d rs1 q
    have eb : b' = b := Option.some.inj eb
    subst eb
    obtain ⟨f2, r2, st2⟩ := r'.drop
    exact ⟨b', vw_bl r'.viewT, h1 _ _ rfl _ _ _ (st.trans st2) r2⟩
  · subst e
    exact h rs _ q sg G H ts tv fp _ hR (fun d' rs' er => by cases er) (fun x' rs' er => by cases er; exact h2 _ _ rfl)
theorem satPT_bl {t : TE} {m : E} (h : SatP X t (evP m)) (hb : ∀ rs d, evP m rs = some d → ∃ b, d = .bl b) : SatPT X (tTest t) (evP m) := by
  intro rs d b e eb sg G H ts tv fp Q hR q
  refine h rs d e sg G H ts tv fp _ hR fun v hv => ?_
  obtain ⟨b', rfl⟩ := hb rs d e
  have eb : b' = b := Option.some.inj eb
  subst eb
  exact ⟨b', vw_bl hv, q⟩
theorem satOp_inv {dl : List D → Option D} {ev : List D → Option (Res (List Arg))} {rs rs' : List D} {d : D} (h : satOp dl ev rs = some (.ok d rs')) : ∃ ds, dl ds = some d ∧ isSc d = true := by
  unfold satOp at h
  rcases bd_some h with ⟨as, rs1, q, h⟩ | ⟨x, rs1, q, h⟩
  · split at h
    · rename_i d' q'
      split at h
      · cases h; exact ⟨_, q', by assumption⟩
      · cases h
    · cases h
  · cases h
/-! ### a built-in function -/
def rF (X : Cx) (p : PF) : List V → Hp → VK → Prop := fun vs H Q => ∃ ds d, Vws X.K X.mg H ds vs ∧ dF p ds = some d ∧ ∀ v, isSc d = true → Vw X.K X.mg H d v → Q v H
theorem sat_fnc {p : PF} {tes : List TE} {as : Es} (h : SatA X W tes (evA as)) : Sat X W (tCB (rF X p) (runs tes)) (satOp (dF p) (evA as)) :=
  sat_op (fun Q vs H => rF X p vs H Q) h (fun Q vs H ⟨ds, d, hv, e, hs, q⟩ => ⟨ds, d, hv, e, fun v _ hv => q v hv⟩) fun sg H Q h => h
theorem boot_pf {p : PF} (h : p ≠ .gcd) : bootBuiltins (fnN p) = some (fnV p) := by
  cases p <;> first | decide +kernel | exact absurd rfl h
theorem pe_fncB (F : Fine X) {p : PF} {id : String} (ei : fnV p = .builtin id) (hm : X.mg (fnN p) = none) (hb : bootBuiltins (fnN p) = some (fnV p)) (hg : Gl X (fnN p)) (hn : fnN p ≠ "__name__") (hd : (fnN p == ("__debug__" : Str)) = false) {e : Expr} {es : List Expr} {tes : List TE} {q pos : Pos} (h : PEs X (e :: es) tes) (hs : ∀ x ∈ e :: es, nst x = true) :
    PE X (.Call (.Name (fnN p) q) (e :: es) [] pos) (tCB (rF X p) (runs tes)) := by
  have hc : CallR X (fnV p) (rF X p) := doesF F X.mg p
  rw [ei] at hc hb
  exact pe_callB hc hg hm hb (pa_of h hs) hn hd (star_nst (hs e List.mem_cons_self) es X.env) (back_nst (fun e he => hs e (List.mem_cons_of_mem _ he)) pos X.env)
theorem pe_fncT (F : Fine X) {p : PF} {id : String} (ei : fnV p = .type id) (hm : X.mg (fnN p) = none) (hb : bootBuiltins (fnN p) = some (fnV p)) (hg : Gl X (fnN p)) (hn : fnN p ≠ "__name__") (hd : (fnN p == ("__debug__" : Str)) = false) {e : Expr} {es : List Expr} {tes : List TE} {q pos : Pos} (h : PEs X (e :: es) tes) (hs : ∀ x ∈ e :: es, nst x = true) :
    PE X (.Call (.Name (fnN p) q) (e :: es) [] pos) (tCB (rF X p) (runs tes)) := by
  have hc : CallR X (fnV p) (rF X p) := doesF F X.mg p
  rw [ei] at hc hb
  exact pe_callTy hc hg hm hb (pa_of h hs) hn hd (star_nst (hs e List.mem_cons_self) es X.env) (back_nst (fun e he => hs e (List.mem_cons_of_mem _ he)) pos X.env)
theorem pe_fncG (F : Fine X) {p : PF} {id : String} (ei : fnV p = .builtin id) (hm : X.mg (fnN p) = some (.builtin id)) (hg : Gl X (fnN p)) (hd : (fnN p == ("__debug__" : Str)) = false) {e : Expr} {es : List Expr} {tes : List TE} {q pos : Pos} (h : PEs X (e :: es) tes) (hs : ∀ x ∈ e :: es, nst x = true) :
    PE X (.Call (.Name (fnN p) q) (e :: es) [] pos) (tCB (rF X p) (runs tes)) := by
  have hc : CallR X (fnV p) (rF X p) := doesF F X.mg p
  rw [ei] at hc
  exact pe_callBfun hc hg hm (pa_of h hs) hd (star_nst (hs e List.mem_cons_self) es X.env) (back_nst (fun e he => hs e (List.mem_cons_of_mem _ he)) pos X.env)
theorem pf_kind (p : PF) : (p = .gcd) ∨ (p = .int) ∨ (p ≠ .gcd ∧ ∃ id, fnV p = .builtin id ∧ (PfHas (gvOf X) p → X.mg (fnN p) = none)) := by
  cases p <;> first | exact .inl rfl | exact .inr (.inl rfl) | exact .inr (.inr ⟨by decide, _, rfl, id⟩)
theorem pe_fnc (F : Fine X) {p : PF} (hp : PfHas (gvOf X) p) {x : Str} (hx : x = fnN p) (hg : Gl X x) (hn : x ≠ "__name__") (hd : (x == ("__debug__" : Str)) = false) {es : List Expr} {tes : List TE} {q pos : Pos} (hne : nempty es = true) (h : PEs X es tes) (hs : ∀ e ∈ es, nst e = true) :
    PE X (.Call (.Name x q) es [] pos) (tCB (rF X p) (runs tes)) := by
  cases es with
  | nil => cases hne
  | cons e es =>
    subst hx
    rcases pf_kind (X := X) p with e1 | e1 | ⟨hne, id, e1, e2⟩
    · subst e1
      exact pe_fncG F (p := .gcd) (id := "math.gcd") rfl hp hg hd h hs
    · subst e1
      exact pe_fncT F (p := .int) (id := "int") rfl hp (boot_pf (by decide)) hg hn hd h hs
    · exact pe_fncB F e1 (e2 hp) (boot_pf hne) hg hn hd h hs
def SatPs (X : Cx) (tes : List TE) (ev : List D → Option (List D)) : Prop :=
  ∀ rs ds, ev rs = some ds → ∀ (sg : L2.St) (G H : Hp) (ts : List D) (tv : List V) (fp : FP) (Q : List V → Hp → Prop), R X.K X.mg G H ts tv rs sg fp → (∀ vs, Vws X.K X.mg H ds vs → Q vs H) → runs tes sg H Q
theorem satPs_nil : SatPs X [] (evPs .nil) := by
  intro rs ds e sg G H ts tv fp Q hR h
  cases e
  exact h [] (by simp [Vws, Reps])
theorem satPs_cons {t : TE} {tes : List TE} {a : E} {r : Es} (h1 : SatP X t (evP a)) (h2 : SatPs X tes (evPs r)) : SatPs X (t :: tes) (evPs (.cons a r)) := by
  intro rs ds e sg G H ts tv fp Q hR h
  simp only [evPs] at e
  obtain ⟨x, ex, e⟩ := ob_some e
  obtain ⟨xs, exs, e⟩ := ob_some e
  cases e
  exact h1 rs x ex sg G H ts tv fp _ hR fun v hv => h2 rs xs exs sg G H ts tv fp _ hR fun vs hvs => h _ (vws_mk hv hvs)
theorem satP_fnc {p : PF} {tes : List TE} {as : Es} (h : SatPs X tes (evPs as)) : SatP X (tCB (rF X p) (runs tes)) (evP (.fnc p as)) := by
  intro rs d e sg G H ts tv fp Q hR hq
  simp only [evP] at e
  obtain ⟨xs, ex, e⟩ := ob_some e
  obtain ⟨e, hs⟩ := scOnly_some e
  exact h rs xs ex sg G H ts tv fp _ hR fun vs hv => ⟨xs, d, hv, e, fun v _ hv => hq v hv⟩
/-! ### isinstance -/
def rIs (X : Cx) (T : String) : List V → Hp → VK → Prop := fun vs H Q => ∃ x y, vs = [x, y] ∧ y = .ty T ∧ ∃ d r, Vw X.K X.mg H d x ∧ dIs T d = some r ∧ ∀ v, Vw X.K X.mg H r v → Q v H
theorem call_isD {T : String} : CallR X (.builtin "isinstance") (rIs X T) := by
  intro pins s σ H vs us Q I r h
  obtain ⟨x, y, rfl, rfl, d, b, hv, e, q⟩ := h
  unfold dIs at e
  split at e
  · rename_i n en
    obtain ⟨k, ek, rfl⟩ := Option.map_eq_some_iff.mp e
    exact call_isi pins s σ H _ us Q I r ⟨x, .ty T, .type n, .type T, k, rfl, .ty T, doesTy hv en, kit_ty ek, q _ rep_bl⟩
  · cases e
theorem boot_ty {T : String} (h : tyOkB T = true) : bootBuiltins (Str.ofString T) = some (.type T) := by
  have h' : T ∈ ["int", "bool", "str", "list", "tuple"] := by simpa [tyOkB, List.contains_iff_mem] using h
  simp only [List.mem_cons, List.not_mem_nil, or_false] at h'
  rcases h' with rfl | rfl | rfl | rfl | rfl <;> decide +kernel
theorem pe_isi {a : Expr} {ta : TE} {x y : Str} {T : String} {p q pos : Pos} (hx : x = "isinstance") (hy : y = Str.ofString T) (hT : tyOkB T = true) (gx : Gl X x ∧ (x == ("__debug__" : Str)) = false ∧ x ≠ "__name__") (gy : Gl X y ∧ (y == ("__debug__" : Str)) = false ∧ y ≠ "__name__")
    (mx : X.mg "isinstance" = none) (my : X.mg (Str.ofString T) = none) (hn : nst a = true) (ha : PE X a ta) : PE X (.Call (.Name x p) [a, .Name y q] [] pos) (tCB (rIs X T) (runs [ta, tC (.ty T)])) := by
  subst hx hy
  have h2 : PE X (.Name (Str.ofString T) q) (tC (.ty T)) := pe_bltn gy.1 my (boot_ty hT) rfl gy.2.2 gy.2.1
  have hs : ∀ e ∈ [a, Expr.Name (Str.ofString T) q], nst e = true := fun e he => by
    simp only [List.mem_cons, List.not_mem_nil, or_false] at he
    rcases he with rfl | rfl
    · exact hn
    · rfl
  exact pe_callB call_isD gx.1 mx (by decide +kernel) (pa_of (.cons ha (.one h2)) hs) gx.2.2 gx.2.1 (star_nst hn _ _) (back_nst (fun e he => hs e (List.mem_cons_of_mem _ he)) _ _)
theorem sat_isi {ta : TE} {a : E} {T : String} (ha : Opd X W ta a) : Sat X W (tCB (rIs X T) (runs [ta, tC (.ty T)])) (satOp (one (dIs T)) (a1 (slotOf a) (evE a false) a0)) := by
  refine sat_op (fun Q vs H => match vs with
    | [x] => rIs X T [x, .ty T] H Q
    | _ => False) (satA_cons ha satA_nil) (fun Q vs H h => ?_) fun sg H Q h => h
  obtain ⟨ds, d, hv, e, hs, q⟩ := h
  match ds, hv, e with
  | [x], hv, e =>
    obtain ⟨v, rfl, h1⟩ := vws1 hv
    exact ⟨v, _, rfl, rfl, x, d, h1, e, q⟩
theorem satP_isi {ta : TE} {a : E} {T : String} (ha : SatP X ta (evP a)) : SatP X (tCB (rIs X T) (runs [ta, tC (.ty T)])) (evP (.isi a T)) := by
  intro rs d e sg G H ts tv fp Q hR h
  simp only [evP] at e
  obtain ⟨x, ex, e⟩ := ob_some e
  obtain ⟨e, hs⟩ := scOnly_some e
  exact ha rs x ex sg G H ts tv fp _ hR fun v hv => ⟨v, _, rfl, rfl, x, d, hv, e, h⟩
/-! ### calls, displays -/
theorem pe_callF (g : Good X W c km) {x : Str} {f : Fn} (hf : FnHas (gvOf X) km x f) (hg : Gl X x) (hd : (x == ("__debug__" : Str)) = false) {es : List Expr} {tes : List TE} {q pos : Pos} (hne : nempty es = true) (h : PEs X es tes) (hs : ∀ e ∈ es, nst e = true) :
    PE X (.Call (.Name x q) es [] pos) (fun sg H Q => runs tes sg H fun vs H1 => spOf X.K X.mg f vs H1 Q (WE W sg)) := by
  cases es with
  | nil => cases hne
  | cons e es =>
    obtain ⟨k, a, fd, ps, hk, hm, hkp, hF, hb⟩ := hf.ex
    have hp := pe_callSD (p := q) (pos := pos) (dvs := []) (E := WE W) hF (g.room.mono hk) hg hm hkp hb .nil (fun σ => passAt g.tk σ) (pa_of h hs) hd (star_nst (hs e List.mem_cons_self) es X.env) (back_nst (fun e he => hs e (List.mem_cons_of_mem _ he)) pos X.env)
    have e : tCallSD (spOf X.K X.mg f) [] (WE W) (runs tes) = fun sg H Q => runs tes sg H fun vs H1 => spOf X.K X.mg f vs H1 Q (WE W sg) := by
      funext sg H Q
      unfold tCallSD
      simp only [List.append_nil]
    rw [← e]; exact hp
theorem sat_call {f : Fn} {tes : List TE} {as : Es} (h : SatA X W tes (evA as)) : Sat X W (fun sg H Q => runs tes sg H fun vs H1 => spOf X.K X.mg f vs H1 Q (WE W sg)) (fun rs => Res.bd (evA as rs) fun as rs1 => callD f as rs1) := by
  intro rs r e sg G H ts tv fp Q hR h1 h2
  rcases bd_some e with ⟨as', rs1, q, e⟩ | ⟨x, rs1, q, e⟩
  · refine h rs _ q sg G H ts tv fp _ hR (fun as2 rs' er vs va G' H' f' st r' ar => ?_) (fun x rs' er => by cases er)
    cases er
    exact call_sp r' ar e (fun d rs' er v G2 H2 f2 st2 r2 => h1 d rs' er v G2 H2 f2 (st.trans st2) r2) fun x rs' er cls da G2 H2 f2 st2 r2 xr => h2 x rs' er cls da G2 H2 f2 (st.trans st2) r2 xr
  · subst e
    exact h rs _ q sg G H ts tv fp _ hR (fun d' rs' er => by cases er) (fun x' rs' er => by cases er; exact h2 _ _ rfl)
theorem le_line {n : Nat} (h : n ≤ 1000) : n ≤ sizeLine := Nat.le_of_lt (small1000 h)
theorem sat_tup {tes : List TE} {ev : List D → Option (Res (List D))} (h : SatV X W tes ev) : Sat X W (tTup (runs tes)) (fun rs => Res.bd (ev rs) fun ds rs1 => if ds.length ≤ 1000 then some (.ok (.tup ds) rs1) else none) := by
  intro rs r e sg G H ts tv fp Q hR h1 h2
  rcases bd_some e with ⟨ds, rs1, q, e⟩ | ⟨x, rs1, q, e⟩
  · split at e
    · rename_i hl
      cases e
      refine h rs _ q sg G H ts tv fp _ hR (fun ds' rs' er vs G' H' f' st r' el => ?_) (fun x rs' er => by cases er)
      cases er
      refine ⟨le_line (by omega), fun p hp => ?_⟩
      obtain ⟨f2, r2, st2⟩ := r'.newT el hp
      exact h1 _ _ rfl _ _ _ _ (st.trans st2) r2
    · cases e
  · subst e
    exact h rs _ q sg G H ts tv fp _ hR (fun d' rs' er => by cases er) (fun x' rs' er => by cases er; exact h2 _ _ rfl)
theorem sat_lst {tes : List TE} {ev : List D → Option (Res (List D))} (h : SatV X W tes ev) : Sat X W (tLst (runs tes)) (fun rs => Res.bd (ev rs) fun ds rs1 => if ds.length ≤ 1000 then some (.ok (.lst true ds) rs1) else none) := by
  intro rs r e sg G H ts tv fp Q hR h1 h2
  rcases bd_some e with ⟨ds, rs1, q, e⟩ | ⟨x, rs1, q, e⟩
  · split at e
    · rename_i hl
      cases e
      refine h rs _ q sg G H ts tv fp _ hR (fun ds' rs' er vs G' H' f' st r' el => ?_) (fun x rs' er => by cases er)
      cases er
      refine ⟨le_line (by omega), fun p hp => ?_⟩
      obtain ⟨f2, r2, st2⟩ := r'.newL el hp
      exact h1 _ _ rfl _ _ _ _ (st.trans st2) r2
    · cases e
  · subst e
    exact h rs _ q sg G H ts tv fp _ hR (fun d' rs' er => by cases er) (fun x' rs' er => by cases er; exact h2 _ _ rfl)
/-! ### items -/
theorem ix_of {H : Hp} {a : Addr} {vs : List V} {k : Int} {w : V} {Q : VK} (hs : SqL X.K H a vs ∨ SqT X.K H a vs) (h : atI vs k = some w) (q : Q w H) : rIx X.K (.ref a) (.int k) H Q := by
  rcases hs with hs | hs
  · exact .inl ⟨a, vs, k, w, rfl, rfl, hs, h, q⟩
  · exact .inr (.inl ⟨a, vs, k, w, rfl, rfl, hs, h, q⟩)
theorem vws_at {H : Hp} {xs : List D} {vs : List V} {k : Int} {c : D} (h : Vws X.K X.mg H xs vs) (e : atI xs k = some c) : ∃ w, atI vs k = some w ∧ Vw X.K X.mg H c w := by
  obtain ⟨j, h1, h2⟩ := atI_ix e
  obtain ⟨w, h3, h4⟩ := vws_get h h2
  exact ⟨w, atI_of (reps_len h) h1 h3, h4⟩
theorem satP_ix {ta tb : TE} {a i : E} (ha : SatP X ta (evP a)) (hb : SatP X tb (evP i)) : SatP X (tOp (rIx X.K) ta tb) (evP (.ix a i)) := by
  intro rs d e sg G H ts tv fp Q hR h
  simp only [evP] at e
  obtain ⟨x, ex, e⟩ := ob_some e
  obtain ⟨y, ey, e⟩ := ob_some e
  refine ha rs x ex sg G H ts tv fp _ hR fun v hv => hb rs y ey sg G H ts tv fp _ hR fun w hw => ?_
  cases y with
  | int k =>
    rw [vw_int hw]
    simp only [at2] at e
    split at e
    · rename_i xs exs
      obtain ⟨a, vs, f, rfl, hs, hr, hf, _⟩ := rep_items hv (fun _ _ h => h) exs
      obtain ⟨w2, h1, h2⟩ := vws_at (reps_iff hr fun a => ⟨fun z => hf a z, fun z => z.elim⟩) e
      exact ix_of hs h1 (h _ h2)
    · cases e
  | _ => cases x <;> cases e
theorem sat_ix {ta tb : TE} {a i : E} (ha : Opd X W ta a) (hb : Sat X W tb (evE i false)) (mv : Bool) : Sat X W (tOp (rIx X.K) ta tb) (evE (.ix a i) mv) := by
  intro rs r e sg G H ts tv fp Q hR h1 h2
  simp only [evE] at e
  unfold Opd at ha
  cases q0 : slotOf a with
  | some s =>
    rw [q0] at e ha
    simp only at e ha
    subst ha
    obtain ⟨d0, qd0, e⟩ := ob_some e
    split at e
    · cases e
    rename_i hu
    obtain ⟨v, hv⟩ := hR.val qd0 (by intro z; rw [z] at hu; exact hu rfl)
    refine ⟨v, hv, ?_⟩
    rcases bd_some e with ⟨k, rs1, q, e⟩ | ⟨x, rs1, q, e⟩
    · refine hb rs _ q sg G H ts tv fp _ hR (fun d' rs' er w G' H' f' st r' => ?_) (fun x rs' er => by cases er)
      cases er
      unfold ixLoc at e
      cases k with
      | int k =>
        obtain ⟨d, qd, e⟩ := ob_some e
        obtain ⟨xs, qx, e⟩ := ob_some e
        obtain ⟨c, qc, e⟩ := ob_some e
        cases vw_int (show Vw X.K X.mg H' (.int k) w from r'.viewT)
        obtain ⟨f2, r2, st2⟩ := r'.drop
        have r3 := r2.take qd hv
        split at e
        · rename_i hz
          cases e
          obtain ⟨a, vs, w, ev, hs, hw, f3, r4, st4⟩ := r3.item qx qc
          subst ev
          -- the item is frozen: it stands beside the list
          obtain ⟨g1, g2, k1, _, _, _⟩ := r4.top
          have hc : Rep X.K X.mg G' H' c w (fun _ => False) := rep_iff k1 fun a => ⟨fun z => rep_emp c hz k1 a z, fun z => z.elim⟩
          exact ix_of hs hw (h1 c rs1 rfl w G' H' f2 (st.trans st2) (r2.pushE hc))
        · cases e
          obtain ⟨a, vs, w, ev, hs, hw, G3, f3, r4, st4⟩ := r3.fzItem qx qc
          subst ev
          obtain ⟨f5, r5, st5⟩ := (r4.swap).back (s := s) hv
          rw [List.set_set] at r5
          exact ix_of hs hw (h1 _ _ rfl w G3 H' f5 (((st.trans st2).trans st4).trans st5) r5)
      | _ => cases e
    · subst e
      exact hb rs _ q sg G H ts tv fp _ hR (fun d' rs' er => by cases er) (fun x' rs' er => by cases er; exact h2 _ _ rfl)
  | none =>
    rw [q0] at e ha
    simp only at e ha
    rcases bd_some e with ⟨d, rs1, q, e⟩ | ⟨x, rs1, q, e⟩
    · refine ha rs _ q sg G H ts tv fp _ hR (fun d' rs' er v G' H' f' st r' => ?_) (fun x rs' er => by cases er)
      cases er
      rcases bd_some e with ⟨k, rs2, q2, e⟩ | ⟨x, rs2, q2, e⟩
      · refine hb rs1 _ q2 sg G' H' _ _ f' _ r' (fun d' rs' er w G2 H2 f2 st2 r2 => ?_) (fun x rs' er => by cases er)
        cases er
        unfold ixTmp at e
        cases k with
        | int k =>
          obtain ⟨xs, qx, e⟩ := ob_some e
          obtain ⟨c, qc, e⟩ := ob_some e
          cases e
          cases vw_int (show Vw X.K X.mg H2 (.int k) w from r2.viewT)
          obtain ⟨f3, r3, st3⟩ := r2.drop
          obtain ⟨a, vs, w, ev, hs, hw, f4, r4, st4⟩ := r3.item qx qc
          subst ev
          exact ix_of hs hw (h1 c rs2 rfl w G2 H2 f4 (((st.trans st2).trans st3).trans st4) r4)
        | _ => cases e
      · subst e
        exact hb rs1 _ q2 sg G' H' _ _ f' _ r' (fun d' rs' er => by cases er) (fun x' rs' er => by cases er; exact (h2 _ _ rfl).step st)
    · subst e
      exact ha rs _ q sg G H ts tv fp _ hR (fun d' rs' er => by cases er) (fun x' rs' er => by cases er; exact h2 _ _ rfl)
/-- a copy of a list -/
def rCpy (K : Fr) : List V → Hp → VK → Prop := fun xs H Q => ∃ p ys, xs = [.ref p] ∧ (SqL K H p ys ∨ SqT K H p ys) ∧ ∀ l, H l = none → Q (.ref l) (upd H l (.lst ys))
theorem R.newL' {K : Fr} {mg : Str → Option Value} {G H : Hp} {fp : FP} {ts : List D} {tv : List V} {rs : List D} {sg : L2.St} {as : List D} {va : List V} {p : Addr} {f1 : FP} (r : R K mg G H ts tv rs sg fp) (h : Reps K mg G H as va f1) (dj : ∀ a, f1 a → ¬ fp a) (hg : ∀ a o, G a = some o → ¬ f1 a) (n : H p = none) :
    ∃ fp' : FP, R K mg G (upd H p (.lst va)) (.lst true as :: ts) (.ref p :: tv) rs sg fp' ∧ Step K G H (fun a => f1 a ∨ fp a) G (upd H p (.lst va)) fp' := by
  have r2 := r.pushN (reps_rev h) dj hg
  exact r2.newL (reps_len h) n
theorem sat_cpy {ta : TE} {a : E} (ha : Opd X W ta a) (mv : Bool) : Sat X W (tCB (rCpy X.K) (runs [ta])) (evE (.cpy a) mv) := by
  intro rs r e sg G H ts tv fp Q hR h1 h2
  simp only [evE] at e
  unfold Opd at ha
  show ta sg H fun x H1 => rCpy X.K [x] H1 Q
  cases q0 : slotOf a with
  | some s =>
    rw [q0] at e ha
    simp only at e ha
    subst ha
    unfold cpyLoc at e
    obtain ⟨d, qd, e⟩ := ob_some e
    obtain ⟨xs, qx, e⟩ := ob_some e
    split at e
    · rename_i hz
      cases e
      obtain ⟨v, hv⟩ := hR.val qd (by intro z; rw [z] at qx; cases qx)
      obtain ⟨f1, f2, k1, r2, dj, ef⟩ := (hR.take qd hv).top
      obtain ⟨a, vs, f3, ev, hs, hr, hf, _⟩ := rep_items k1 (fun a o h => (hR.sub a o h).1) qx
      subst ev
      have f3e : ∀ a, ¬ f3 a := reps_emp xs hz hr
      refine ⟨_, hv, a, vs, rfl, hs, fun l hl => ?_⟩
      obtain ⟨f4, r4, st4⟩ := hR.newL' (as := xs) hr (fun a z => absurd z (f3e a)) (fun a o _ z => f3e a z) hl
      refine h1 _ _ rfl _ _ _ f4 ⟨fun a o h n => st4.keep a o h (fun z => z.elim (f3e a) n), st4.tups, fun a z => (st4.new a z).imp id (fun q => q.elim (fun w => absurd w (f3e a)) id), st4.grow, fun a o h => .inl h⟩ r4
    · cases e
  | none =>
    rw [q0] at e ha
    simp only at e ha
    rcases bd_some e with ⟨d, rs1, q, e⟩ | ⟨x, rs1, q, e⟩
    · refine ha rs _ q sg G H ts tv fp _ hR (fun d' rs' er v G' H' f' st r' => ?_) (fun x rs' er => by cases er)
      cases er
      unfold cpyTmp at e
      obtain ⟨xs, qx, e⟩ := ob_some e
      cases e
      obtain ⟨f1, f2, k1, r2, dj, ef⟩ := r'.top
      obtain ⟨a, vs, f3, ev, hs, hr, hf, _⟩ := rep_items k1 (fun a o h => (r'.sub a o h).1) qx
      subst ev
      refine ⟨a, vs, rfl, hs, fun l hl => ?_⟩
      obtain ⟨f4, r4, st4⟩ := r2.newL' (as := xs) hr (fun a z => dj a (hf a z)) (fun a o h z => (r'.sub a o h).2 ((ef a).2 (.inl (hf a z)))) hl
      refine h1 _ _ rfl _ _ _ f4 (st.trans ⟨fun a o h n => st4.keep a o h (fun z => n ((ef a).2 (z.imp (hf a) id))), st4.tups, fun a z => (st4.new a z).imp id (fun q => (ef a).2 (q.imp (hf a) id)), st4.grow, fun a o h => .inl h⟩) r4
    · subst e
      exact ha rs _ q sg G H ts tv fp _ hR (fun d' rs' er => by cases er) (fun x' rs' er => by cases er; exact h2 _ _ rfl)
theorem pe_cpy {a : Expr} {ta : TE} {x : Str} {p pos : Pos} (hx : x = "list") (gx : Gl X x ∧ (x == ("__debug__" : Str)) = false ∧ x ≠ "__name__") (mx : X.mg "list" = none) (hn : nst a = true) (ha : PE X a ta) : PE X (.Call (.Name x p) [a] [] pos) (tCB (rCpy X.K) (runs [ta])) := by
  subst hx
  have hs : ∀ e ∈ [a], nst e = true := fun e he => by
    simp only [List.mem_cons, List.not_mem_nil, or_false] at he
    subst he; exact hn
  exact pe_callTy call_list_of gx.1 mx PyProof.Rows.boot_list (pa_of (.one ha) hs) gx.2.2 gx.2.1 (star_nst hn _ _) (back_nst (fun e he => hs e (List.mem_cons_of_mem _ he)) _ _)
end
end Pv

set_option maxHeartbeats 2000000
namespace Pv
open PySem PySem.Spec PyProof.Rows L2

section
variable {X : Cx} {W : WX} {c : Ce} {km : Nat}
theorem Sat.congr {t : TE} {ev ev' : List D → Option (Res D)} (h : Sat X W t ev) (e : ∀ rs r, ev' rs = some r → ev rs = some r) : Sat X W t ev' :=
  fun rs r q => h rs r (e rs r q)
theorem SatP.none {t : TE} {ev : List D → Option D} (h : ∀ rs, ev rs = Option.none) : SatP X t ev := fun rs d e => by rw [h] at e; cases e
theorem bd_inv {A B : Type} {r : Option (Res A)} {f : A → List D → Option (Res B)} {b : B} {rs' : List D} (h : Res.bd r f = some (.ok b rs')) : ∃ a rs, r = some (.ok a rs) ∧ f a rs = some (.ok b rs') := by
  rcases bd_some h with h | ⟨x, rs, _, e⟩
  · exact h
  · cases e
/-- and, or, of values -/
theorem sat_and1 {t : TE} {a : E} (h : Sat X W t (evE a false)) : Sat X W t (evAnd (.cons a .nil)) := by
  intro rs r e sg G H ts tv fp Q hR h1 h2
  simp only [evAnd] at e
  rcases bd_some e with ⟨d, rs1, q, e⟩ | ⟨x, rs1, q, e⟩
  · obtain ⟨b, eb, e⟩ := ob_some e
    cases d with
    | bl b' =>
      have eb : b' = b := Option.some.inj eb
      subst eb
      have er : r = .ok (.bl b') rs1 := by cases b' <;> (cases e; rfl)
      subst er
      exact h rs _ q sg G H ts tv fp Q hR h1 h2
    | _ => cases eb
  · subst e
    exact h rs _ q sg G H ts tv fp Q hR h1 h2
theorem sat_or1 {t : TE} {a : E} (h : Sat X W t (evE a false)) : Sat X W t (evOr (.cons a .nil)) := by
  intro rs r e sg G H ts tv fp Q hR h1 h2
  simp only [evOr] at e
  rcases bd_some e with ⟨d, rs1, q, e⟩ | ⟨x, rs1, q, e⟩
  · obtain ⟨b, eb, e⟩ := ob_some e
    cases d with
    | bl b' =>
      have eb : b' = b := Option.some.inj eb
      subst eb
      have er : r = .ok (.bl b') rs1 := by cases b' <;> (cases e; rfl)
      subst er
      exact h rs _ q sg G H ts tv fp Q hR h1 h2
    | _ => cases eb
  · subst e
    exact h rs _ q sg G H ts tv fp Q hR h1 h2
theorem sat_andN {t u : TE} {a : E} {r : Es} (h : Sat X W t (evE a false)) (hr : Sat X W u (evAnd r)) : Sat X W (tAndV t u) (evAnd (.cons a r)) := by
  intro rs rr e sg G H ts tv fp Q hR h1 h2
  simp only [evAnd] at e
  rcases bd_some e with ⟨d, rs1, q, e⟩ | ⟨x, rs1, q, e⟩
  · obtain ⟨b, eb, e⟩ := ob_some e
    refine h rs _ q sg G H ts tv fp _ hR (fun d' rs' er v G' H' f' st r' => ?_) (fun x rs' er => by cases er)
    cases er
    cases d with
    | bl b' =>
      have eb : b' = b := Option.some.inj eb
      subst eb
      obtain ⟨f2, r2, st2⟩ := r'.drop
      refine ⟨b', vw_bl r'.viewT, ?_⟩
      cases b' with
      | true =>
        simp only [if_true] at e ⊢
        exact hr rs1 _ e sg G' H' ts tv f2 Q r2 (fun d rs' er v G3 H3 f3 st3 r3 => h1 d rs' er v G3 H3 f3 ((st.trans st2).trans st3) r3) fun x rs' er => (h2 x rs' er).step (st.trans st2)
      | false =>
        simp only [Bool.false_eq_true, if_false] at e ⊢
        cases e
        exact h1 _ _ rfl _ _ _ _ (st.trans st2) (r2.pushE rep_bl)
    | _ => cases eb
  · subst e
    exact h rs _ q sg G H ts tv fp _ hR (fun d' rs' er => by cases er) (fun x' rs' er => by cases er; exact h2 _ _ rfl)
theorem sat_orN {t u : TE} {a : E} {r : Es} (h : Sat X W t (evE a false)) (hr : Sat X W u (evOr r)) : Sat X W (tOrV t u) (evOr (.cons a r)) := by
  intro rs rr e sg G H ts tv fp Q hR h1 h2
  simp only [evOr] at e
  rcases bd_some e with ⟨d, rs1, q, e⟩ | ⟨x, rs1, q, e⟩
  · obtain ⟨b, eb, e⟩ := ob_some e
    refine h rs _ q sg G H ts tv fp _ hR (fun d' rs' er v G' H' f' st r' => ?_) (fun x rs' er => by cases er)
    cases er
    cases d with
    | bl b' =>
      have eb : b' = b := Option.some.inj eb
      subst eb
      obtain ⟨f2, r2, st2⟩ := r'.drop
      refine ⟨b', vw_bl r'.viewT, ?_⟩
      cases b' with
      | false =>
        simp only [Bool.false_eq_true, if_false] at e ⊢
        exact hr rs1 _ e sg G' H' ts tv f2 Q r2 (fun d rs' er v G3 H3 f3 st3 r3 => h1 d rs' er v G3 H3 f3 ((st.trans st2).trans st3) r3) fun x rs' er => (h2 x rs' er).step (st.trans st2)
      | true =>
        simp only [if_true] at e ⊢
        cases e
        exact h1 _ _ rfl _ _ _ _ (st.trans st2) (r2.pushE rep_bl)
    | _ => cases eb
  · subst e
    exact h rs _ q sg G H ts tv fp _ hR (fun d' rs' er => by cases er) (fun x' rs' er => by cases er; exact h2 _ _ rfl)
/-- a chain of looks -/
theorem sat_chn {p q : P2} {ta tb tc : TE} {a b d : E} (ha : SatP X ta (evP a)) (hb : SatP X tb (evP b)) (hc : SatP X tc (evP d)) (mv : Bool) : Sat X W (tChain (rD2 X p) (rD2 X q) ta tb tc) (evE (.chn p q a b d) mv) := by
  intro rs r e sg G H ts tv fp Q hR h1 h2
  simp only [evE, chnD] at e
  obtain ⟨x, ex, e⟩ := ob_some e
  obtain ⟨y, ey, e⟩ := ob_some e
  refine ha rs x ex sg G H ts tv fp _ hR fun v hv => hb rs y ey sg G H ts tv fp _ hR fun w hw => ?_
  split at e
  · rename_i ed
    obtain ⟨z, ez, e⟩ := ob_some e
    obtain ⟨d', ed', e⟩ := ob_some e
    obtain ⟨ed', hs⟩ := scOnly_some ed'
    cases d' with
    | bl b' =>
      cases e
      refine ⟨x, y, .bl true, hv, hw, ed, fun u _ hu => ⟨true, vw_bl hu, ?_⟩⟩
      simp only [if_true]
      exact hc rs z ez sg G H ts tv fp _ hR fun u hu => ⟨y, z, .bl b', hw, hu, ed', fun u' _ hu' => h1 _ _ rfl _ _ _ _ .refl (hR.pushE (sc_any hs hu'))⟩
    | _ => cases e
  · rename_i ed
    cases e
    refine ⟨x, y, .bl false, hv, hw, ed, fun u _ hu => ⟨false, vw_bl hu, ?_⟩⟩
    simp only [Bool.false_eq_true, if_false]
    exact h1 _ _ rfl _ _ _ _ .refl (hR.pushE rep_bl)
  · cases e
theorem chn_bl {p q : P2} {a b d : E} {rs rs' : List D} {x : D} (h : evE (.chn p q a b d) false rs = some (.ok x rs')) : ∃ k, x = .bl k := by
  simp only [evE, chnD] at h
  obtain ⟨x, ex, e⟩ := ob_some h
  obtain ⟨y, ey, e⟩ := ob_some e
  split at e
  · obtain ⟨z, ez, e⟩ := ob_some e
    obtain ⟨d', ed', e⟩ := ob_some e
    cases d' <;> first | (cases e; exact ⟨_, rfl⟩) | cases e
  · cases e; exact ⟨_, rfl⟩
  · cases e
/-- a conditional expression -/
theorem sat_ite {tt : TT} {ta tb : TE} {t a b : E} (ht : SatT X W tt (evT t)) (ha : ∀ mv, Sat X W ta (evE a mv)) (hb : ∀ mv, Sat X W tb (evE b mv)) (mv : Bool) : Sat X W (tIf tt ta tb) (evE (.ite t a b) mv) := by
  intro rs r e sg G H ts tv fp Q hR h1 h2
  simp only [evE] at e
  rcases bd_some e with ⟨d, rs1, q, e⟩ | ⟨x, rs1, q, e⟩
  · obtain ⟨k, ek, e⟩ := ob_some e
    cases d with
    | bl k' =>
      have ek : k' = k := Option.some.inj ek
      subst ek
      have et : evT t rs = some (.ok k' rs1) := by unfold evT; rw [q]; rfl
      refine ht rs _ et sg G H ts tv fp _ hR (fun b' rs' er G' H' f' st r' => ?_) (fun x rs' er => by cases er)
      cases er
      cases k' with
      | true =>
        simp only [if_true] at e ⊢
        exact ha mv rs1 _ e sg G' H' ts tv f' Q r' (fun d rs' er v G3 H3 f3 st3 r3 => h1 d rs' er v G3 H3 f3 (st.trans st3) r3) fun x rs' er => (h2 x rs' er).step st
      | false =>
        simp only [Bool.false_eq_true, if_false] at e ⊢
        exact hb mv rs1 _ e sg G' H' ts tv f' Q r' (fun d rs' er v G3 H3 f3 st3 r3 => h1 d rs' er v G3 H3 f3 (st.trans st3) r3) fun x rs' er => (h2 x rs' er).step st
    | _ => cases ek
  · subst e
    have et : evT t rs = some (.exc x rs1) := by unfold evT; rw [q]; rfl
    exact ht rs _ et sg G H ts tv fp _ hR (fun b' rs' er => by cases er) (fun x' rs' er => by cases er; exact h2 _ _ rfl)
/-- tests -/
theorem satT_not {t : TT} {a : E} (h : SatT X W t (evT a)) : SatT X W (tNot t) (evT (.lnot a)) := by
  intro rs r e sg G H ts tv fp Q hR h1 h2
  unfold evT at e
  simp only [evE] at e
  rcases bd_some e with ⟨d, rs1, q, e⟩ | ⟨x, rs1, q, e⟩
  · obtain ⟨k, ek, e⟩ := ob_some e
    cases e
    rcases bd_some q with ⟨d', rs2, q', e⟩ | ⟨x, rs2, q', e⟩
    · obtain ⟨b, eb, e⟩ := ob_some e
      cases e
      cases ek
      cases d' with
      | bl b' =>
        have eb : b' = b := Option.some.inj eb
        subst eb
        have et : evT a rs = some (.ok b' rs1) := by unfold evT; rw [q']; rfl
        refine h rs _ et sg G H ts tv fp _ hR (fun b2 rs' er G' H' f' st r' => ?_) (fun x rs' er => by cases er)
        cases er
        exact h1 _ _ rfl G' H' f' st r'
      | _ => cases eb
    · cases e
  · subst e
    rcases bd_some q with ⟨d', rs2, q', e⟩ | ⟨x, rs2, q', e⟩
    · obtain ⟨b, eb, e⟩ := ob_some e
      cases e
    · cases e
      have et : evT a rs = some (.exc x rs1) := by unfold evT; rw [q']; rfl
      exact h rs _ et sg G H ts tv fp _ hR (fun b2 rs' er => by cases er) (fun x' rs' er => by cases er; exact h2 _ _ rfl)
def evTA (m : Es) (rs : List D) : Option (Res Bool) := Res.bd (evAnd m rs) fun d rs1 => ob (dT d) fun b => some (.ok b rs1)
def evTO (m : Es) (rs : List D) : Option (Res Bool) := Res.bd (evOr m rs) fun d rs1 => ob (dT d) fun b => some (.ok b rs1)
theorem evTA_eq {as : Es} : evT (.land as) = evTA as := by funext rs; unfold evT evTA; simp only [evE]
theorem evTO_eq {as : Es} : evT (.lor as) = evTO as := by funext rs; unfold evT evTO; simp only [evE]
/-- what a first operand gives -/
theorem evTA_cons {a : E} {r : Es} {rs : List D} {q : Res Bool} (e : evTA (.cons a r) rs = some q) : (∃ rs1, evT a rs = some (.ok true rs1) ∧ evTA r rs1 = some q) ∨ (∃ rs1, evT a rs = some (.ok false rs1) ∧ q = .ok false rs1) ∨ ∃ x rs1, evT a rs = some (.exc x rs1) ∧ q = .exc x rs1 := by
  unfold evTA at e
  simp only [evAnd] at e
  unfold evT
  cases q0 : evE a false rs with
  | none => rw [q0] at e; cases e
  | some r0 =>
    rw [q0] at e
    cases r0 with
    | exc x rs1 => cases e; exact .inr (.inr ⟨x, rs1, rfl, rfl⟩)
    | ok d rs1 =>
      simp only [Res.bd_ok] at e ⊢
      cases d with
      | bl b =>
        cases b with
        | true => exact .inl ⟨rs1, rfl, e⟩
        | false => cases e; exact .inr (.inl ⟨rs1, rfl, rfl⟩)
      | _ => cases e
theorem evTO_cons {a : E} {r : Es} {rs : List D} {q : Res Bool} (e : evTO (.cons a r) rs = some q) : (∃ rs1, evT a rs = some (.ok false rs1) ∧ evTO r rs1 = some q) ∨ (∃ rs1, evT a rs = some (.ok true rs1) ∧ q = .ok true rs1) ∨ ∃ x rs1, evT a rs = some (.exc x rs1) ∧ q = .exc x rs1 := by
  unfold evTO at e
  simp only [evOr] at e
  unfold evT
  cases q0 : evE a false rs with
  | none => rw [q0] at e; cases e
  | some r0 =>
    rw [q0] at e
    cases r0 with
    | exc x rs1 => cases e; exact .inr (.inr ⟨x, rs1, rfl, rfl⟩)
    | ok d rs1 =>
      simp only [Res.bd_ok] at e ⊢
      cases d with
      | bl b =>
        cases b with
        | false => exact .inl ⟨rs1, rfl, e⟩
        | true => cases e; exact .inr (.inl ⟨rs1, rfl, rfl⟩)
      | _ => cases e
theorem satT_and1 {t : TT} {a : E} (h : SatT X W t (evT a)) : SatT X W t (evTA (.cons a .nil)) := by
  intro rs r e sg G H ts tv fp Q hR h1 h2
  rcases evTA_cons e with ⟨rs1, q, e⟩ | ⟨rs1, q, e⟩ | ⟨x, rs1, q, e⟩
  · cases e
    exact h rs _ q sg G H ts tv fp Q hR h1 h2
  · subst e
    exact h rs _ q sg G H ts tv fp Q hR h1 h2
  · subst e
    exact h rs _ q sg G H ts tv fp Q hR h1 h2
theorem satT_or1 {t : TT} {a : E} (h : SatT X W t (evT a)) : SatT X W t (evTO (.cons a .nil)) := by
  intro rs r e sg G H ts tv fp Q hR h1 h2
  rcases evTO_cons e with ⟨rs1, q, e⟩ | ⟨rs1, q, e⟩ | ⟨x, rs1, q, e⟩
  · cases e
    exact h rs _ q sg G H ts tv fp Q hR h1 h2
  · subst e
    exact h rs _ q sg G H ts tv fp Q hR h1 h2
  · subst e
    exact h rs _ q sg G H ts tv fp Q hR h1 h2
theorem satT_andN {t u : TT} {a : E} {r : Es} (h : SatT X W t (evT a)) (hr : SatT X W u (evTA r)) : SatT X W (tAnd t u) (evTA (.cons a r)) := by
  intro rs rr e sg G H ts tv fp Q hR h1 h2
  rcases evTA_cons e with ⟨rs1, q, e⟩ | ⟨rs1, q, e⟩ | ⟨x, rs1, q, e⟩
  · refine h rs _ q sg G H ts tv fp _ hR (fun b2 rs' er G' H' f' st r' => ?_) (fun x rs' er => by cases er)
    cases er
    simp only [if_true]
    exact hr rs1 _ e sg G' H' ts tv f' Q r' (fun d rs' er G3 H3 f3 st3 r3 => h1 d rs' er G3 H3 f3 (st.trans st3) r3) fun x rs' er => (h2 x rs' er).step st
  · subst e
    refine h rs _ q sg G H ts tv fp _ hR (fun b2 rs' er G' H' f' st r' => ?_) (fun x rs' er => by cases er)
    cases er
    simp only [Bool.false_eq_true, if_false]
    exact h1 _ _ rfl G' H' f' st r'
  · subst e
    exact h rs _ q sg G H ts tv fp _ hR (fun b2 rs' er => by cases er) h2
theorem satT_orN {t u : TT} {a : E} {r : Es} (h : SatT X W t (evT a)) (hr : SatT X W u (evTO r)) : SatT X W (tOr t u) (evTO (.cons a r)) := by
  intro rs rr e sg G H ts tv fp Q hR h1 h2
  rcases evTO_cons e with ⟨rs1, q, e⟩ | ⟨rs1, q, e⟩ | ⟨x, rs1, q, e⟩
  · refine h rs _ q sg G H ts tv fp _ hR (fun b2 rs' er G' H' f' st r' => ?_) (fun x rs' er => by cases er)
    cases er
    simp only [Bool.false_eq_true, if_false]
    exact hr rs1 _ e sg G' H' ts tv f' Q r' (fun d rs' er G3 H3 f3 st3 r3 => h1 d rs' er G3 H3 f3 (st.trans st3) r3) fun x rs' er => (h2 x rs' er).step st
  · subst e
    refine h rs _ q sg G H ts tv fp _ hR (fun b2 rs' er G' H' f' st r' => ?_) (fun x rs' er => by cases er)
    cases er
    simp only [if_true]
    exact h1 _ _ rfl G' H' f' st r'
  · subst e
    exact h rs _ q sg G H ts tv fp _ hR (fun b2 rs' er => by cases er) h2
theorem ands {a b : Bool} (h : (a && b) = true) : a = true ∧ b = true := Bool.and_eq_true_iff.mp h
end
end Pv

set_option maxHeartbeats 2000000
namespace Pv
open PySem PySem.Spec PyProof.Rows L2

/-! ### statements -/
inductive Fl where
  | nx (rs : List D)
  | ret (d : D) (rs : List D)
  | bk (rs : List D)
  | ct (rs : List D)
  | exc (x : Exc) (rs : List D)
/-- the same slots at the places that are kept -/
def Kp (io : List Nat) (sg sg' : L2.St) : Prop := ∀ k ∈ io, sg'[k]? = sg[k]?
theorem Kp.refl (io : List Nat) (sg : L2.St) : Kp io sg sg := fun _ _ => rfl
theorem Kp.trans {io : List Nat} {a b c : L2.St} (h1 : Kp io a b) (h2 : Kp io b c) : Kp io a c := fun k hk => (h2 k hk).trans (h1 k hk)
theorem okS_of {io : List Nat} {n i : Nat} (h : okS io n i = true) : i ∉ io ∧ i < n := by
  unfold okS at h
  obtain ⟨h1, h2⟩ := ands h
  refine ⟨fun z => ?_, of_decide_eq_true h2⟩
  simp [List.contains_eq_mem, z] at h1
theorem Kp.set {io : List Nat} {sg : L2.St} {i : Nat} {v : Option V} (h : i ∉ io) : Kp io sg (sg.set i v) := fun k hk => by
  have : i ≠ k := fun z => h (z ▸ hk)
  rw [List.getElem?_set_ne this]
/-- what is wanted behind a statement -/
def SPost (X : Cx) (W : WX) (io : List Nat) (sg : L2.St) (G H : Hp) (fp : FP) (Dn : Ends) : Fl → Prop
  | .nx rs => ∀ sg' G' H' fp', Step X.K G H fp G' H' fp' → Kp io sg sg' → R X.K X.mg G' H' [] [] rs sg' fp' → Dn.nx sg' H'
  | .ret d rs => ∀ v sg' G' H' fp', Step X.K G H fp G' H' fp' → Kp io sg sg' → R X.K X.mg G' H' [d] [v] rs sg' fp' → Dn.rt v H'
  | .bk rs => ∀ sg' G' H' fp', Step X.K G H fp G' H' fp' → Kp io sg sg' → R X.K X.mg G' H' [] [] rs sg' fp' → Dn.bk sg' H'
  | .ct rs => ∀ sg' G' H' fp', Step X.K G H fp G' H' fp' → Kp io sg sg' → R X.K X.mg G' H' [] [] rs sg' fp' → Dn.ct sg' H'
  | .exc x rs => ∀ cls da sg' G' H' fp', Step X.K G H fp G' H' fp' → Kp io sg sg' → R X.K X.mg G' H' [] [] rs sg' fp' → XRep X.K X.mg x cls da H' → W cls da sg' H'
def SatS (X : Cx) (W : WX) (io : List Nat) (t : TS) (ev : List D → Option Fl) : Prop :=
  ∀ rs r, ev rs = some r → ∀ (sg : L2.St) (G H : Hp) (fp : FP) (Dn : Ends), R X.K X.mg G H [] [] rs sg fp → SPost X W io sg G H fp Dn r → t Dn sg H
section
variable {X : Cx} {W : WX} {c : Ce} {km : Nat} {io : List Nat}
theorem SPost.step {sg sg1 : L2.St} {G H G1 H1 : Hp} {fp f1 : FP} {Dn : Ends} {r : Fl} (h : SPost X W io sg G H fp Dn r) (st : Step X.K G H fp G1 H1 f1) (kp : Kp io sg sg1) : SPost X W io sg1 G1 H1 f1 Dn r := by
  cases r with
  | nx rs => exact fun sg' G' H' fp' s k r => h sg' G' H' fp' (st.trans s) (kp.trans k) r
  | ret d rs => exact fun v sg' G' H' fp' s k r => h v sg' G' H' fp' (st.trans s) (kp.trans k) r
  | bk rs => exact fun sg' G' H' fp' s k r => h sg' G' H' fp' (st.trans s) (kp.trans k) r
  | ct rs => exact fun sg' G' H' fp' s k r => h sg' G' H' fp' (st.trans s) (kp.trans k) r
  | exc x rs => exact fun cls da sg' G' H' fp' s k r xr => h cls da sg' G' H' fp' (st.trans s) (kp.trans k) r xr
/-- other ends, the same exceptions -/
theorem SPost.ends {sg : L2.St} {G H : Hp} {fp : FP} {Dn : Ends} {x : Exc} {rs : List D} (Dm : Ends) (h : SPost X W io sg G H fp Dn (.exc x rs)) : SPost X W io sg G H fp Dm (.exc x rs) := h
theorem SPost.xp {sg : L2.St} {G H : Hp} {fp : FP} {Dn : Ends} {x : Exc} {rs : List D} (h : SPost X W io sg G H fp Dn (.exc x rs)) : XP X W x rs sg G H fp := fun cls da G' H' fp' st r xr => h cls da sg G' H' fp' st (Kp.refl _ _) r xr
def Fl.bd (r : Option Fl) (f : List D → Option Fl) : Option Fl := match r with
  | some (.nx rs) => f rs
  | r => r
theorem satS_nil : SatS X W io tNext (fun rs => some (.nx rs)) := by
  intro rs r e sg G H fp Dn hR h
  cases e
  exact h sg G H fp .refl (Kp.refl _ _) hR
theorem satS_seq {t u : TS} {ev evs : List D → Option Fl} (h1 : SatS X W io t ev) (h2 : SatS X W io u evs) : SatS X W io (tSeq t u) (fun rs => Fl.bd (ev rs) evs) := by
  intro rs r e sg G H fp Dn hR h
  dsimp only at e
  cases q : ev rs with
  | none => rw [q] at e; cases e
  | some r1 =>
    rw [q] at e
    refine h1 rs r1 q sg G H fp { Dn with nx := u Dn } hR ?_
    cases r1 with
    | nx rs1 => exact fun sg' G' H' fp' st kp r' => h2 rs1 r e sg' G' H' fp' Dn r' (h.step st kp)
    | ret d rs1 => cases e; exact h
    | bk rs1 => cases e; exact h
    | ct rs1 => cases e; exact h
    | exc x rs1 => cases e; exact h
/-- a value is reckoned; then goes on with it on the pile -/
theorem sat_then {t : TE} {ev : List D → Option (Res D)} (h : Sat X W t ev) {f : D → List D → Option Fl} {g : V → L2.St → Hp → Prop} {rs : List D} {r : Fl} {sg : L2.St} {G H : Hp} {fp : FP} {Dn : Ends}
    (e : (match ev rs with
      | some (.ok d rs1) => f d rs1
      | some (.exc x rs1) => some (.exc x rs1)
      | none => none) = some r) (hR : R X.K X.mg G H [] [] rs sg fp) (hp : SPost X W io sg G H fp Dn r)
    (hf : ∀ d rs1, ev rs = some (.ok d rs1) → f d rs1 = some r → ∀ v G' H' fp', Step X.K G H fp G' H' fp' → R X.K X.mg G' H' [d] [v] rs1 sg fp' → SPost X W io sg G' H' fp' Dn r → g v sg H') : t sg H (fun v H' => g v sg H') := by
  cases q : ev rs with
  | none => rw [q] at e; cases e
  | some r1 =>
    rw [q] at e
    refine h rs r1 q sg G H [] [] fp _ hR (fun d rs1 er v G' H' fp' st r' => ?_) (fun x rs1 er => ?_)
    · subst er
      exact hf d rs1 q e v G' H' fp' st r' (hp.step st (Kp.refl _ _))
    · subst er
      cases e
      exact hp.xp
def thenE (r : Option (Res D)) (f : D → List D → Option Fl) : Option Fl := match r with
  | some (.ok d rs1) => f d rs1
  | some (.exc x rs1) => some (.exc x rs1)
  | none => none
/-- targets -/
def SatG (X : Cx) (io : List Nat) (g : TG) (f : D → List D → Option (List D)) : Prop :=
  ∀ d rs rs', f d rs = some rs' → ∀ (v : V) (sg : L2.St) (G H : Hp) (ts : List D) (tv : List V) (fp : FP) (Q : L2.St → Hp → Prop), R X.K X.mg G H (d :: ts) (v :: tv) rs sg fp →
    (∀ sg' H' fp', Step X.K G H fp G H' fp' → Kp io sg sg' → R X.K X.mg G H' ts tv rs' sg' fp' → Q sg' H') → g v sg H Q
theorem satG_nm {i : Nat} : SatG X io (gName i) (tgA io (.nm i)) := by
  intro d rs rs' e v sg G H ts tv fp Q hR h
  simp only [tgA] at e
  split at e
  · rename_i ho
    cases e
    obtain ⟨h1, h2⟩ := okS_of ho
    obtain ⟨f', r', st⟩ := hR.put h2
    exact h _ H f' st (.set h1) r'
  · cases e
def gNames : List Nat → TGs
  | [] => gNil
  | i :: is => gCons (gName i) (gNames is)
theorem satGs : ∀ {is : List Nat} {ds rs rs' : List D}, setAll io is ds rs = some rs' → ∀ {vs : List V} {sg : L2.St} {G H : Hp} {ts : List D} {tv : List V} {fp : FP} {Q : L2.St → Hp → Prop}, ds.length = vs.length → R X.K X.mg G H (ds ++ ts) (vs ++ tv) rs sg fp →
    (∀ sg' fp', Step X.K G H fp G H fp' → Kp io sg sg' → R X.K X.mg G H ts tv rs' sg' fp' → Q sg' H) → gNames is vs sg H Q
  | [], [], rs, rs', e, [], sg, G, H, ts, tv, fp, Q, el, hR, h => by
    cases e
    exact ⟨rfl, h sg fp .refl (Kp.refl _ _) hR⟩
  | i :: is, d :: ds, rs, rs', e, v :: vs, sg, G, H, ts, tv, fp, Q, el, hR, h => by
    simp only [setAll] at e
    split at e
    · rename_i ho
      obtain ⟨h1, h2⟩ := okS_of ho
      obtain ⟨f', r', st⟩ := (show R X.K X.mg G H (d :: (ds ++ ts)) (v :: (vs ++ tv)) rs sg fp from hR).put h2
      exact ⟨v, vs, rfl, satGs e (by simpa using el) r' fun sg' fp' st' kp r => h sg' fp' (st.trans st') ((Kp.set h1).trans kp) r⟩
    · cases e
  | [], _ :: _, _, _, e, _, _, _, _, _, _, _, _, _, _, _ => by simp [setAll] at e
  | _ :: _, [], _, _, e, _, _, _, _, _, _, _, _, _, _, _ => by simp [setAll] at e
  | [], [], _, _, _, _ :: _, _, _, _, _, _, _, _, el, _, _ => by simp at el
  | _ :: _, _ :: _, _, _, _, [], _, _, _, _, _, _, _, el, _, _ => by simp at el
theorem setAll_len : ∀ {is : List Nat} {ds rs rs' : List D}, setAll io is ds rs = some rs' → ds.length = is.length
  | [], [], _, _, _ => rfl
  | i :: is, d :: ds, rs, rs', e => by
    simp only [setAll] at e
    split at e
    · simp [setAll_len e]
    · cases e
  | [], _ :: _, _, _, e => by simp [setAll] at e
  | _ :: _, [], _, _, e => by simp [setAll] at e
theorem satG_tp {is : List Nat} : SatG X io (gTup X.K is.length (gNames is)) (tgA io (.tp is)) := by
  intro d rs rs' e v sg G H ts tv fp Q hR h
  cases d <;> first | (cases e; done) | skip
  rename_i ds
  simp only [tgA] at e
  obtain ⟨f1, f2, k1, r2, dj, ef⟩ := hR.top
  simp only [Rep] at k1
  obtain ⟨a, vs, rfl, hs, hr⟩ := k1
  have r3 := r2.pushN hr dj fun a o hg z => (hR.sub a o hg).2 ((ef a).2 (.inl z))
  have st : Step X.K G H fp G H (fun a => f1 a ∨ f2 a) := .less fun a z => (ef a).2 z
  exact ⟨a, vs, rfl, hs, by rw [← reps_len hr, setAll_len e], satGs e (reps_len hr) r3 fun sg' fp' st' kp r => h sg' H fp' (st.trans st') kp r⟩

/-! ### one lemma a statement -/
/-- target = value -/
theorem satS_asg {te : TE} {g : TG} {ev : List D → Option (Res D)} {f : D → List D → Option (List D)} (h : Sat X W te ev) (hg : SatG X io g f) : SatS X W io (tAsg te g) (fun rs => thenE (ev rs) fun d rs1 => ob (f d rs1) fun rs2 => some (.nx rs2)) := by
  intro rs r e sg G H fp Dn hR hp
  refine sat_then (f := fun d rs1 => ob (f d rs1) fun rs2 => some (.nx rs2)) (g := fun v sg H' => g v sg H' Dn.nx) h e hR hp fun d rs1 _ e v G' H' f' st r' hp => ?_
  obtain ⟨rs2, q, e⟩ := ob_some e
  cases e
  exact hg d rs1 rs2 q v sg G' H' [] [] f' _ r' fun sg' H2 f2 st2 kp r2 => hp sg' G' H2 f2 st2 kp r2
theorem satS_ret {te : TE} {ev : List D → Option (Res D)} (h : Sat X W te ev) : SatS X W io (tRet te) (fun rs => thenE (ev rs) fun d rs1 => some (.ret d rs1)) := by
  intro rs r e sg G H fp Dn hR hp
  refine sat_then (f := fun d rs1 => some (.ret d rs1)) (g := fun v sg H' => Dn.rt v H') h e hR hp fun d rs1 _ e v G' H' f' st r' hp => ?_
  cases e
  exact hp v sg G' H' f' .refl (Kp.refl _ _) r'
theorem satS_retN : SatS X W io tRetN (fun rs => some (.ret .non rs)) := by
  intro rs r e sg G H fp Dn hR hp
  cases e
  exact hp .non sg G H fp .refl (Kp.refl _ _) (hR.pushE rep_non)
theorem satS_expr {te : TE} {ev : List D → Option (Res D)} (h : Sat X W te ev) : SatS X W io (tDrop te) (fun rs => thenE (ev rs) fun d rs1 => some (.nx rs1)) := by
  intro rs r e sg G H fp Dn hR hp
  refine sat_then (f := fun d rs1 => some (.nx rs1)) (g := fun v sg H' => Dn.nx sg H') h e hR hp fun d rs1 _ e v G' H' f' st r' hp => ?_
  cases e
  obtain ⟨f2, r2, st2⟩ := r'.drop
  exact hp sg G' H' f2 st2 (Kp.refl _ _) r2
theorem satS_bk : SatS X W io tBreak (fun rs => some (.bk rs)) := by
  intro rs r e sg G H fp Dn hR hp
  cases e
  exact hp sg G H fp .refl (Kp.refl _ _) hR
theorem satS_ct : SatS X W io tCont (fun rs => some (.ct rs)) := by
  intro rs r e sg G H fp Dn hR hp
  cases e
  exact hp sg G H fp .refl (Kp.refl _ _) hR
def thenT (r : Option (Res Bool)) (f : Bool → List D → Option Fl) : Option Fl := match r with
  | some (.ok d rs1) => f d rs1
  | some (.exc x rs1) => some (.exc x rs1)
  | none => none
theorem satS_if {tc : TT} {t u : TS} {ec : List D → Option (Res Bool)} {ea eb : List D → Option Fl} (hc : SatT X W tc ec) (ha : SatS X W io t ea) (hb : SatS X W io u eb) : SatS X W io (tIfS tc t u) (fun rs => thenT (ec rs) fun b rs1 => if b then ea rs1 else eb rs1) := by
  intro rs r e sg G H fp Dn hR hp
  dsimp only at e
  cases q : ec rs with
  | none => rw [q] at e; cases e
  | some r1 =>
    rw [q] at e
    refine hc rs r1 q sg G H [] [] fp _ hR (fun b rs1 er G' H' fp' st r' => ?_) (fun x rs1 er => ?_)
    · subst er
      cases b with
      | true =>
        simp only [thenT, if_true] at e ⊢
        exact ha rs1 r e sg G' H' fp' Dn r' (hp.step st (Kp.refl _ _))
      | false =>
        simp only [thenT, Bool.false_eq_true, if_false] at e ⊢
        exact hb rs1 r e sg G' H' fp' Dn r' (hp.step st (Kp.refl _ _))
    · subst er
      cases e
      exact hp.xp
/-- while -/
def whlL (cond : List D → Option (Res Bool)) (body : List D → Option Fl) : Nat → List D → Option Fl
  | 0, _ => none
  | n + 1, rs => thenT (cond rs) fun b rs1 => if b then
      match body rs1 with
      | some (.nx rs2) => whlL cond body n rs2
      | some (.ct rs2) => whlL cond body n rs2
      | some (.bk rs2) => some (.nx rs2)
      | r => r
    else some (.nx rs1)
theorem satS_whl {tc : TT} {tb : TS} {ec : List D → Option (Res Bool)} {eb : List D → Option Fl} (hc : SatT X W tc ec) (hb : SatS X W io tb eb) (n : Nat) : SatS X W io (tWhile tc tb) (whlL ec eb n) := by
  intro rs r e sg G H fp Dn hR hp
  refine ⟨fun m sg' H' => ∃ rs' G' fp', whlL ec eb m rs' = some r ∧ Step X.K G H fp G' H' fp' ∧ Kp io sg sg' ∧ R X.K X.mg G' H' [] [] rs' sg' fp', ⟨n, rs, G, fp, e, .refl, Kp.refl _ _, hR⟩, ?_⟩
  rintro m sg1 H1 ⟨rs1, G1, f1, e1, st1, kp1, r1⟩
  cases m with
  | zero => cases e1
  | succ m =>
    simp only [whlL] at e1
    cases q : ec rs1 with
    | none => rw [q] at e1; cases e1
    | some r2 =>
      rw [q] at e1
      refine hc rs1 r2 q sg1 G1 H1 [] [] f1 _ r1 (fun b rs2 er G2 H2 f2 st2 r2' => ?_) (fun x rs2 er => ?_)
      · subst er
        cases b with
        | false =>
          simp only [thenT, Bool.false_eq_true, if_false] at e1 ⊢
          cases e1
          exact hp sg1 G2 H2 f2 (st1.trans st2) kp1 r2'
        | true =>
          simp only [thenT, if_true] at e1 ⊢
          refine ⟨fun sg' H' => ∃ rs' G' fp', whlL ec eb m rs' = some r ∧ Step X.K G H fp G' H' fp' ∧ Kp io sg sg' ∧ R X.K X.mg G' H' [] [] rs' sg' fp', fun sg' H' h => ⟨m, Nat.lt_succ_self m, h⟩, ?_⟩
          cases q3 : eb rs2 with
          | none => rw [q3] at e1; cases e1
          | some r3 =>
            rw [q3] at e1
            refine hb rs2 r3 q3 sg1 G2 H2 f2 _ r2' ?_
            cases r3 with
            | nx rs3 => exact fun sg' G' H' fp' st kp r' => ⟨rs3, G', fp', e1, (st1.trans st2).trans st, kp1.trans kp, r'⟩
            | ct rs3 => exact fun sg' G' H' fp' st kp r' => ⟨rs3, G', fp', e1, (st1.trans st2).trans st, kp1.trans kp, r'⟩
            | bk rs3 =>
              cases e1
              exact fun sg' G' H' fp' st kp r' => hp sg' G' H' fp' ((st1.trans st2).trans st) (kp1.trans kp) r'
            | ret d rs3 =>
              cases e1
              exact fun v sg' G' H' fp' st kp r' => hp v sg' G' H' fp' ((st1.trans st2).trans st) (kp1.trans kp) r'
            | exc x rs3 =>
              cases e1
              exact fun cls da sg' G' H' fp' st kp r' xr => hp cls da sg' G' H' fp' ((st1.trans st2).trans st) (kp1.trans kp) r' xr
      · subst er
        cases e1
        exact fun cls da G' H' fp' st r' xr => hp cls da sg1 G' H' fp' (st1.trans st) kp1 r' xr
/-- what a loop walks -/
structure ItOk (K : Fr) (mg : Str → Option Value) (G H0 : Hp) (J : L2.It) (items : List D) : Prop where
  go : ∀ i H, i < items.length → (∀ a o, G a = some o → H a = some o) → (∀ a vs, SqT K H0 a vs → SqT K H a vs) → J.go i H
  yld : ∀ i H x H' d, items[i]? = some d → (∀ a o, G a = some o → H a = some o) → (∀ a vs, SqT K H0 a vs → SqT K H a vs) → J.yld i H x H' → (∀ a o, H a = some o → H' a = some o) ∧ Rep K mg G H' d x (fun _ => False)
  stop : ∀ i H, items.length ≤ i → (∀ a o, G a = some o → H a = some o) → (∀ a vs, SqT K H0 a vs → SqT K H a vs) → J.stop i H
def SatI (X : Cx) (W : WX) (wi : TI) (ev : List D → Option (Res (List D))) : Prop :=
  ∀ rs r, ev rs = some r → ∀ (sg : L2.St) (G H : Hp) (ts : List D) (tv : List V) (fp : FP) (Rk : L2.It → Hp → Prop), R X.K X.mg G H ts tv rs sg fp →
    (∀ ds rs', r = .ok ds rs' → ∀ J G' H' fp', Step X.K G H fp G' H' fp' → R X.K X.mg G' H' ts tv rs' sg fp' → ItOk X.K X.mg G' H' J ds → Rk J H') →
    (∀ x rs', r = .exc x rs' → XP X W x rs' sg G H fp) → wi sg H Rk
def forL (asg : D → List D → Option (List D)) (body : List D → Option Fl) : List D → List D → Option Fl
  | [], rs => some (.nx rs)
  | d :: ds, rs => ob (asg d rs) fun rs1 => match body rs1 with
    | some (.nx rs2) => forL asg body ds rs2
    | some (.ct rs2) => forL asg body ds rs2
    | some (.bk rs2) => some (.nx rs2)
    | r => r
def thenI (r : Option (Res (List D))) (f : List D → List D → Option Fl) : Option Fl := match r with
  | some (.ok d rs1) => f d rs1
  | some (.exc x rs1) => some (.exc x rs1)
  | none => none
theorem Step.ext {K : Fr} {G H H' : Hp} {fp : FP} (h : ∀ a o, H a = some o → H' a = some o) : Step K G H fp G H' fp := by
  refine ⟨fun a o e _ => h a o e, fun a vs e => ?_, fun a z => .inr z, fun _ _ e => e, fun a o e => .inl e⟩
  rcases e with (e | ⟨u, e⟩) | e
  · exact .inl (.inl (h _ _ e))
  · exact .inl (.inr ⟨u, h _ _ e⟩)
  · exact .inr e
theorem drop_cons {A : Type} {l : List A} {i : Nat} {x : A} (h : l[i]? = some x) : l.drop i = x :: l.drop (i + 1) := by
  obtain ⟨hl, e⟩ := List.getElem?_eq_some_iff.mp h
  rw [List.drop_eq_getElem_cons hl, e]
theorem satS_for {wi : TI} {g : TG} {tb : TS} {ei : List D → Option (Res (List D))} {f : D → List D → Option (List D)} {eb : List D → Option Fl} (hi : SatI X W wi ei) (hg : SatG X io g f) (hb : SatS X W io tb eb) :
    SatS X W io (tFor wi g tb) (fun rs => thenI (ei rs) fun ds rs1 => forL f eb ds rs1) := by
  intro rs r e sg G H fp Dn hR hp
  dsimp only at e
  cases q : ei rs with
  | none => rw [q] at e; cases e
  | some r1 =>
    rw [q] at e
    refine hi rs r1 q sg G H [] [] fp _ hR (fun ds rs1 er J G1 H1 f1 st1 R1 ok => ?_) (fun x rs1 er => ?_)
    · subst er
      have e : forL f eb ds rs1 = some r := e
      refine ⟨fun i m sg' H' => m = ds.length - i ∧ i ≤ ds.length ∧ ∃ rs' G' fp', forL f eb (ds.drop i) rs' = some r ∧ Step X.K G1 H1 f1 G' H' fp' ∧ Kp io sg sg' ∧ R X.K X.mg G' H' [] [] rs' sg' fp', ⟨ds.length, by simp, Nat.zero_le _, rs1, G1, f1, by simpa using e, .refl, Kp.refl _ _, R1⟩, ?_⟩
      rintro i m sg2 H2 ⟨rfl, hil, rs2, G2, f2, e2, st2, kp2, R2⟩
      have gh : ∀ a o, G1 a = some o → H2 a = some o := fun a o h => (R2.sub a o (st2.grow a o h)).1
      by_cases hlt : i < ds.length
      · obtain ⟨d, hd⟩ : ∃ d, ds[i]? = some d := ⟨_, List.getElem?_eq_getElem hlt⟩
        rw [drop_cons hd] at e2
        refine .inr ⟨ok.go i H2 hlt gh st2.tups, fun sg' H' => ∃ rs' G' fp', forL f eb (ds.drop (i + 1)) rs' = some r ∧ Step X.K G1 H1 f1 G' H' fp' ∧ Kp io sg sg' ∧ R X.K X.mg G' H' [] [] rs' sg' fp', fun sg' H' h => ⟨ds.length - (i + 1), by omega, rfl, hlt, h⟩, fun x H3 hy => ?_⟩
        obtain ⟨hx, hrep⟩ := ok.yld i H2 x H3 d hd gh st2.tups hy
        have st3 : Step X.K G2 H2 f2 G2 H3 f2 := .ext hx
        have R3 := R2.mono st3.tups (fun a o _ h => hx a o h) fun a o h => hx a o (R2.sub a o h).1
        have rp : Rep X.K X.mg G2 H3 d x (fun _ => False) := rep_mono st2.grow (fun _ _ h => h) d (fun _ _ z => z.elim) hrep
        have R4 := R3.pushE rp
        simp only [forL] at e2
        obtain ⟨rs3, q3, e2⟩ := ob_some e2
        refine hg d rs2 rs3 q3 x sg2 G2 H3 [] [] f2 _ R4 fun sg4 H4 f4 st4 kp4 R5 => ?_
        cases q5 : eb rs3 with
        | none => rw [q5] at e2; cases e2
        | some r5 =>
          rw [q5] at e2
          have st5 := (st2.trans st3).trans st4
          refine hb rs3 r5 q5 sg4 G2 H4 f4 _ R5 ?_
          cases r5 with
          | nx rs6 => exact fun sg' G' H' fp' st kp r' => ⟨rs6, G', fp', e2, st5.trans st, (kp2.trans kp4).trans kp, r'⟩
          | ct rs6 => exact fun sg' G' H' fp' st kp r' => ⟨rs6, G', fp', e2, st5.trans st, (kp2.trans kp4).trans kp, r'⟩
          | bk rs6 =>
            cases e2
            exact fun sg' G' H' fp' st kp r' => hp sg' G' H' fp' ((st1.trans st5).trans st) ((kp2.trans kp4).trans kp) r'
          | ret d rs6 =>
            cases e2
            exact fun v sg' G' H' fp' st kp r' => hp v sg' G' H' fp' ((st1.trans st5).trans st) ((kp2.trans kp4).trans kp) r'
          | exc x rs6 =>
            cases e2
            exact fun cls da sg' G' H' fp' st kp r' xr => hp cls da sg' G' H' fp' ((st1.trans st5).trans st) ((kp2.trans kp4).trans kp) r' xr
      · have ei' : i = ds.length := by omega
        subst ei'
        rw [List.drop_length] at e2
        cases e2
        exact .inl ⟨ok.stop _ H2 (Nat.le_refl _) gh st2.tups, hp sg2 G2 H2 f2 (st1.trans st2) kp2 R2⟩
    · subst er
      cases e
      exact hp.xp
end
end Pv

set_option maxHeartbeats 2000000
namespace Pv
open PySem PySem.Spec PyProof.Rows L2
section
variable {X : Cx} {W : WX} {c : Ce} {km : Nat} {io : List Nat}
/-! ### what is walked -/
theorem rngB_of {n : Int} (h : rngB n = true) : -(2 ^ 62) ≤ n ∧ n < 2 ^ 62 := by
  have h1 := rngB_iff.mp h
  have e : (2 : Int) ^ 62 = 4611686018427387904 := by decide
  rw [e]
  omega
def itRng (ds : List D) : Option (List D) := match ds with
  | [.int n] => if rngB n then some (rngD 0 n.toNat) else none
  | [.int a, .int b] => if rngB a && rngB b then some (rngD a (b - a).toNat) else none
  | _ => none
theorem rng_ok {K : Fr} {mg : Str → Option Value} {G H0 : Hp} {lo : Int} {n : Nat} : ItOk K mg G H0 (Itr lo n) (rngD lo n) where
  go := fun i H h _ ht => by
    show i < n
    simpa [rngD] using h
  yld := fun i H x H' d e _ _ hy => by
    obtain ⟨e1, e2⟩ := hy
    subst e1 e2
    simp only [rngD, List.getElem?_map] at e
    obtain ⟨j, hj, rfl⟩ := Option.map_eq_some_iff.mp e
    have : j = i := by
      obtain ⟨hl, q⟩ := List.getElem?_eq_some_iff.mp hj
      rw [List.getElem_range] at q
      exact q.symm
    subst this
    exact ⟨fun _ _ h => h, rep_int⟩
  stop := fun i H h _ ht => by
    show n ≤ i
    simpa [rngD] using h
theorem satI_rng1 {tes : List TE} {as : Es} (h : SatA X W tes (evA as)) : SatI X W (iRng1 (runs tes)) (fun rs => Res.bd (evA as rs) fun as rs1 => match as.map (res rs1) with
    | [.int n] => if rngB n then some (.ok (rngD 0 n.toNat) rs1) else none
    | _ => none) := by
  intro rs r e sg G H ts tv fp Rk hR h1 h2
  rcases bd_some e with ⟨as', rs1, q, e⟩ | ⟨x, rs1, q, e⟩
  · refine h rs _ q sg G H ts tv fp _ hR (fun as2 rs' er vs va G' H' f' st r' ar => ?_) (fun x rs' er => by cases er)
    cases er
    have vw := views r' ar
    split at e
    · rename_i n en
      rw [en] at vw
      obtain ⟨v, rfl, hv⟩ := vws1 vw
      cases vw_int hv
      split at e
      · rename_i hn
        cases e
        obtain ⟨f2, r2, st2⟩ := r'.dropN (by simp [ar.len.1])
        exact ⟨n, rfl, (rngB_of hn).1, (rngB_of hn).2, h1 _ _ rfl _ _ _ _ (st.trans st2) r2 rng_ok⟩
      · cases e
    · cases e
  · subst e
    exact h rs _ q sg G H ts tv fp _ hR (fun d' rs' er => by cases er) (fun x' rs' er => by cases er; exact h2 _ _ rfl)
theorem satI_rng2 {tes : List TE} {as : Es} (h : SatA X W tes (evA as)) : SatI X W (iRng2 (runs tes)) (fun rs => Res.bd (evA as rs) fun as rs1 => match as.map (res rs1) with
    | [.int a, .int b] => if rngB a && rngB b then some (.ok (rngD a (b - a).toNat) rs1) else none
    | _ => none) := by
  intro rs r e sg G H ts tv fp Rk hR h1 h2
  rcases bd_some e with ⟨as', rs1, q, e⟩ | ⟨x, rs1, q, e⟩
  · refine h rs _ q sg G H ts tv fp _ hR (fun as2 rs' er vs va G' H' f' st r' ar => ?_) (fun x rs' er => by cases er)
    cases er
    have vw := views r' ar
    split at e
    · rename_i n m en
      rw [en] at vw
      obtain ⟨v, w, rfl, hv, hw⟩ := vws2 vw
      cases vw_int hv; cases vw_int hw
      split at e
      · rename_i hn
        obtain ⟨hn, hm⟩ := ands hn
        cases e
        obtain ⟨f2, r2, st2⟩ := r'.dropN (by simp [ar.len.1])
        exact ⟨n, m, rfl, ⟨(rngB_of hn).1, (rngB_of hn).2, (rngB_of hm).1, (rngB_of hm).2⟩, h1 _ _ rfl _ _ _ _ (st.trans st2) r2 rng_ok⟩
      · cases e
    · cases e
  · subst e
    exact h rs _ q sg G H ts tv fp _ hR (fun d' rs' er => by cases er) (fun x' rs' er => by cases er; exact h2 _ _ rfl)
def tItems : D → Option (List D)
  | .tup xs => some xs
  | _ => none
theorem sqL_sub {K : Fr} {G H : Hp} {a : Addr} {vs : List V} (h : SqL K G a vs) (hg : ∀ a o, G a = some o → H a = some o) : SqL K H a vs := by
  rcases h with (h | ⟨o, h⟩) | h
  · exact .inl (.inl (hg _ _ h))
  · exact .inl (.inr ⟨o, hg _ _ h⟩)
  · exact .inr h
theorem sqT_ex {K : Fr} {H H' : Hp} {a : Addr} {vs : List V} (h : SqT K H a vs) (hg : ∀ a o, H a = some o → H' a = some o) : SqT K H' a vs := by
  rcases h with (h | ⟨o, h⟩) | h
  · exact .inl (.inl (hg _ _ h))
  · exact .inl (.inr ⟨o, hg _ _ h⟩)
  · exact .inr h
/-- a frozen list | tuple, to be walked -/
theorem fz_list {K : Fr} {mg : Str → Option Value} {G H : Hp} {ts : List D} {tv : List V} {rs : List D} {sg : L2.St} {fp : FP} {d : D} {v : V} {xs : List D} (r : R K mg G H (d :: ts) (v :: tv) rs sg fp) (e : lItems (fz d) = some xs) :
    ∃ G' fp' a vs, v = .ref a ∧ R K mg G' H ts tv rs sg fp' ∧ Step K G H fp G' H fp' ∧ SqL K G' a vs ∧ Reps K mg G' H xs vs (fun _ => False) := by
  obtain ⟨G1, f1, r1, st1⟩ := r.fz
  obtain ⟨g1, g2, k1, _, _, _⟩ := r1.top
  obtain ⟨f2, r2, st2⟩ := r1.drop
  cases d <;> first | (cases e; done) | skip
  rename_i o ys
  cases e
  simp only [fz, Rep] at k1
  obtain ⟨a, vs, rfl, hs, hr, hn⟩ := k1
  exact ⟨G1, f2, a, vs, rfl, r2, st1.trans st2, hs, reps_iff hr fun a => ⟨fun z => hn a z, fun z => z.elim⟩⟩
theorem fz_tup {K : Fr} {mg : Str → Option Value} {G H : Hp} {ts : List D} {tv : List V} {rs : List D} {sg : L2.St} {fp : FP} {d : D} {v : V} {xs : List D} (r : R K mg G H (d :: ts) (v :: tv) rs sg fp) (e : tItems (fz d) = some xs) :
    ∃ G' fp' a vs, v = .ref a ∧ R K mg G' H ts tv rs sg fp' ∧ Step K G H fp G' H fp' ∧ SqT K H a vs ∧ Reps K mg G' H xs vs (fun _ => False) := by
  have hfz := isFz_fz d
  obtain ⟨G1, f1, r1, st1⟩ := r.fz
  obtain ⟨g1, g2, k1, _, _, _⟩ := r1.top
  obtain ⟨f2, r2, st2⟩ := r1.drop
  cases d <;> first | (cases e; done) | skip
  rename_i ys
  cases e
  have hem := rep_emp (fz (.tup ys)) hfz k1
  simp only [fz, Rep] at k1
  obtain ⟨a, vs, rfl, hs, hr⟩ := k1
  exact ⟨G1, f2, a, vs, rfl, r2, st1.trans st2, hs, reps_iff hr fun a => ⟨fun z => hem a z, fun z => z.elim⟩⟩
theorem reps_at {K : Fr} {mg : Str → Option Value} {G H : Hp} {xs : List D} {vs : List V} {i : Nat} {d : D} (h : Reps K mg G H xs vs (fun _ => False)) (e : xs[i]? = some d) : ∃ v, vs[i]? = some v ∧ Rep K mg G H d v (fun _ => False) := by
  obtain ⟨w, f1, h1, h2, h3⟩ := reps_item h e
  exact ⟨w, h1, rep_iff h2 fun a => ⟨fun z => h3 a z, fun z => z.elim⟩⟩
theorem seqL_ok {K : Fr} {mg : Str → Option Value} {G H0 : Hp} {a : Addr} {vs : List V} {xs : List D} (hs : SqL K G a vs) (hr : Reps K mg G H0 xs vs (fun _ => False)) : ItOk K mg G H0 (Itl K a) xs where
  go := fun i H h hg ht => by
    obtain ⟨v, hv, _⟩ := reps_at hr (List.getElem?_eq_getElem h)
    exact ⟨vs, v, sqL_sub hs hg, hv⟩
  yld := fun i H x H' d e hg ht hy => by
    obtain ⟨e1, hy⟩ := hy
    subst e1
    obtain ⟨v, hv, rp⟩ := reps_at hr e
    have q := Option.some.inj (hv.symm.trans (hy vs (sqL_sub hs hg)))
    subst q
    exact ⟨fun _ _ h => h, rep_mono (fun _ _ h => h) ht d (fun _ _ z => z.elim) rp⟩
  stop := fun i H h hg ht => ⟨vs, sqL_sub hs hg, by rw [← reps_len hr]; exact h⟩
theorem seqT_ok {K : Fr} {mg : Str → Option Value} {G H0 : Hp} {a : Addr} {vs : List V} {xs : List D} (hs : SqT K H0 a vs) (hr : Reps K mg G H0 xs vs (fun _ => False)) : ItOk K mg G H0 (Itt K a) xs where
  go := fun i H h hg ht => by
    obtain ⟨v, hv, _⟩ := reps_at hr (List.getElem?_eq_getElem h)
    exact ⟨vs, v, ht a vs hs, hv⟩
  yld := fun i H x H' d e hg ht hy => by
    obtain ⟨e1, hy⟩ := hy
    subst e1
    obtain ⟨v, hv, rp⟩ := reps_at hr e
    have q := Option.some.inj (hv.symm.trans (hy vs (ht a vs hs)))
    subst q
    exact ⟨fun _ _ h => h, rep_mono (fun _ _ h => h) ht d (fun _ _ z => z.elim) rp⟩
  stop := fun i H h hg ht => ⟨vs, ht a vs hs, by rw [← reps_len hr]; exact h⟩
theorem enumD_len : ∀ (ds : List D) (i : Nat), (enumD i ds).length = ds.length
  | [], _ => rfl
  | d :: ds, i => by simp [enumD, enumD_len ds]
theorem enumD_get : ∀ {ds : List D} {k i : Nat} {e : D}, (enumD k ds)[i]? = some e → ∃ d, ds[i]? = some d ∧ e = .tup [.int ((k + i : Nat) : Int), d]
  | d :: ds, k, 0, e, h => by cases h; exact ⟨d, rfl, rfl⟩
  | d :: ds, k, i + 1, e, h => by
    obtain ⟨d', h1, h2⟩ := enumD_get (ds := ds) (k := k + 1) (i := i) (by simpa [enumD] using h)
    exact ⟨d', by simpa using h1, by rw [h2]; congr 3; omega⟩
  | [], _, _, _, h => by simp [enumD] at h
theorem rep_pair {K : Fr} {mg : Str → Option Value} {G H : Hp} {T : Addr} {x y : V} {d e : D} (h : H T = some (.tup [x, y])) (h1 : Rep K mg G H d x (fun _ => False)) (h2 : Rep K mg G H e y (fun _ => False)) : Rep K mg G H (.tup [d, e]) (.ref T) (fun _ => False) := by
  simp only [Rep]
  refine ⟨T, [x, y], rfl, .inl (.inl h), ?_⟩
  simp only [Reps]
  exact ⟨_, fun _ => False, h1, ⟨_, fun _ => False, h2, fun _ z => z, fun _ z => z.elim, fun a => by simp⟩, fun _ z => z.elim, fun a => by simp⟩
theorem enm_ok {K : Fr} {mg : Str → Option Value} {G H0 : Hp} {a : Addr} {vs : List V} {xs : List D} (hs : SqL K G a vs) (hr : Reps K mg G H0 xs vs (fun _ => False)) : ItOk K mg G H0 (Ite K a) (enumD 0 xs) where
  go := fun i H h hg ht => by
    rw [enumD_len] at h
    obtain ⟨v, hv, _⟩ := reps_at hr (List.getElem?_eq_getElem h)
    exact ⟨vs, v, sqL_sub hs hg, hv⟩
  yld := fun i H x H' d e hg ht hy => by
    obtain ⟨T, w, rfl, hT, rfl, hy⟩ := hy
    obtain ⟨d', e1, rfl⟩ := enumD_get e
    obtain ⟨v, hv, rp⟩ := reps_at hr e1
    have q := Option.some.inj (hv.symm.trans (hy vs (sqL_sub hs hg)))
    subst q
    have ex : ∀ a o, H a = some o → upd H T (.tup [.int (i : Nat), v]) a = some o := fun a o h => by rw [upd_ne (ne_of_none h hT)]; exact h
    refine ⟨ex, rep_pair upd_same (by rw [Nat.zero_add]; exact rep_int) (rep_mono (fun _ _ h => h) (fun a vs h => sqT_ex (ht a vs h) ex) d' (fun _ _ z => z.elim) rp)⟩
  stop := fun i H h hg ht => ⟨vs, sqL_sub hs hg, by rw [← reps_len hr, ← enumD_len xs 0]; exact h⟩
theorem satI_enm {te : TE} {a : E} (h : Sat X W te (evE a false)) : SatI X W (iEnum X.K (runs [te])) (fun rs => Res.bd (evE a false rs) fun d rs1 => ob (lItems (fz d)) fun xs => some (.ok (enumD 0 xs) rs1)) := by
  intro rs r e sg G H ts tv fp Rk hR h1 h2
  show te sg H fun x H1 => _
  rcases bd_some e with ⟨d, rs1, q, e⟩ | ⟨x, rs1, q, e⟩
  · refine h rs _ q sg G H ts tv fp _ hR (fun d' rs' er v G' H' f' st r' => ?_) (fun x rs' er => by cases er)
    cases er
    obtain ⟨xs, qx, e⟩ := ob_some e
    cases e
    obtain ⟨G2, f2, a, vs, rfl, r2, st2, hs, hr⟩ := fz_list r' qx
    exact ⟨a, vs, rfl, sqL_sub hs fun a o h => (r2.sub a o h).1, h1 _ _ rfl _ _ _ _ (st.trans st2) r2 (enm_ok hs hr)⟩
  · subst e
    exact h rs _ q sg G H ts tv fp _ hR (fun d' rs' er => by cases er) (fun x' rs' er => by cases er; exact h2 _ _ rfl)
theorem zipD_len : ∀ (xs ys : List D), (zipD xs ys).length = min xs.length ys.length
  | [], ys => by simp [zipD]
  | _ :: _, [] => by simp [zipD]
  | x :: xs, y :: ys => by simp [zipD, zipD_len xs ys]
theorem zipD_get : ∀ {xs ys : List D} {i : Nat} {e : D}, (zipD xs ys)[i]? = some e → ∃ x y, xs[i]? = some x ∧ ys[i]? = some y ∧ e = .tup [x, y]
  | x :: xs, y :: ys, 0, e, h => by cases h; exact ⟨x, y, rfl, rfl, rfl⟩
  | x :: xs, y :: ys, i + 1, e, h => by
    obtain ⟨a, b, h1, h2, h3⟩ := zipD_get (xs := xs) (ys := ys) (i := i) (by simpa [zipD] using h)
    exact ⟨a, b, by simpa using h1, by simpa using h2, h3⟩
  | [], _, _, _, h => by simp [zipD] at h
  | _ :: _, [], _, _, h => by simp [zipD] at h
theorem zip_ok {K : Fr} {mg : Str → Option Value} {G H0 : Hp} {a b : Addr} {vs ws : List V} {xs ys : List D} (hs : SqL K G a vs) (hr : Reps K mg G H0 xs vs (fun _ => False)) (hs' : SqL K G b ws) (hr' : Reps K mg G H0 ys ws (fun _ => False)) : ItOk K mg G H0 (Itz K a b) (zipD xs ys) where
  go := fun i H h hg ht => by
    rw [zipD_len] at h
    obtain ⟨v, hv, _⟩ := reps_at hr (List.getElem?_eq_getElem (show i < xs.length by omega))
    obtain ⟨w, hw, _⟩ := reps_at hr' (List.getElem?_eq_getElem (show i < ys.length by omega))
    exact ⟨vs, ws, v, w, sqL_sub hs hg, sqL_sub hs' hg, hv, hw⟩
  yld := fun i H x H' d e hg ht hy => by
    obtain ⟨T, w1, w2, rfl, hT, rfl, hy1, hy2⟩ := hy
    obtain ⟨x, y, e1, e2, rfl⟩ := zipD_get e
    obtain ⟨v, hv, rp⟩ := reps_at hr e1
    obtain ⟨w, hw, rq⟩ := reps_at hr' e2
    have q := Option.some.inj (hv.symm.trans (hy1 vs (sqL_sub hs hg)))
    subst q
    have q := Option.some.inj (hw.symm.trans (hy2 ws (sqL_sub hs' hg)))
    subst q
    have ex : ∀ a o, H a = some o → upd H T (.tup [v, w]) a = some o := fun a o h => by rw [upd_ne (ne_of_none h hT)]; exact h
    have tu : ∀ a vs, SqT K H0 a vs → SqT K (upd H T (.tup [v, w])) a vs := fun a vs h => sqT_ex (ht a vs h) ex
    exact ⟨ex, rep_pair upd_same (rep_mono (fun _ _ h => h) tu x (fun _ _ z => z.elim) rp) (rep_mono (fun _ _ h => h) tu y (fun _ _ z => z.elim) rq)⟩
  stop := fun i H h hg ht => ⟨vs, ws, sqL_sub hs hg, sqL_sub hs' hg, by rw [zipD_len] at h; rw [← reps_len hr, ← reps_len hr']; omega⟩
/-- a list or a tuple -/
def iSeq (K : PySem.W.Frag) (tl : TE) : TI := fun σ H R => tl σ H fun x H1 => ∃ a, x = .ref a ∧ (((∃ xs, SqL K H1 a xs) ∧ R (Itl K a) H1) ∨ ((∃ xs, SqT K H1 a xs) ∧ R (Itt K a) H1))
theorem pi_seq {tg l : Expr} {tl : TE} (hl : PE X l tl) : PI X tg l (iSeq X.K tl) := by
  refine ⟨fun pins s σ H R I h => ?_⟩
  refine thn (hl.run pins s σ H _ I h) fun v s1 ⟨x, H1, I1, r1, q1⟩ => ?_
  obtain ⟨a, e, q⟩ := q1
  subst e
  cases r1
  rcases q with ⟨⟨xs, hq⟩, q⟩ | ⟨⟨xs, hq⟩, q⟩
  · obtain ⟨its, rv, p, hz⟩ := I1.list hq
    refine wpAny_pyIter_list p.isList ?_
    refine ⟨s1.heap.objs.size, [s1.heap.objs.size], _, _, H1, rfl, I1.kept (t' := s1.toks) fun b o e => Heap.get?_push_of_some _ e, turn_list a _, ⟨_, Heap.get?_push_size _ rfl, rfl, rfl⟩, fun b hb => ?_, q⟩
    have e : b = s1.heap.objs.size := by simpa using hb
    subst e
    exact I1.fpOk (Nat.le_refl _) (I1.hok.fresh (Nat.le_refl _))
  · obtain ⟨its, rv, p, hz⟩ := I1.tuple hq
    refine wpAny_pyIter_tuple (show s1.heap.IsTuple a its.toArray from p) ?_
    refine ⟨s1.heap.objs.size, [s1.heap.objs.size], _, _, H1, rfl, I1.kept (t' := s1.toks) fun b o e => Heap.get?_push_of_some _ e, turn_tuple a _, ⟨_, Heap.get?_push_size _ rfl, rfl, rfl⟩, fun b hb => ?_, q⟩
    have e : b = s1.heap.objs.size := by simpa using hb
    subst e
    exact I1.fpOk (Nat.le_refl _) (I1.hok.fresh (Nat.le_refl _))
theorem satI_seqL {te : TE} {a : E} (h : Sat X W te (evE a false)) : SatI X W (iSeq X.K te) (fun rs => Res.bd (evE a false rs) fun d rs1 => ob (itemsOf (fz d)) fun xs => some (.ok xs rs1)) := by
  intro rs r e sg G H ts tv fp Rk hR h1 h2
  rcases bd_some e with ⟨d, rs1, q, e⟩ | ⟨x, rs1, q, e⟩
  · refine h rs _ q sg G H ts tv fp _ hR (fun d' rs' er v G' H' f' st r' => ?_) (fun x rs' er => by cases er)
    cases er
    obtain ⟨xs, qx, e⟩ := ob_some e
    cases e
    have hy : lItems (fz d) = some xs ∨ tItems (fz d) = some xs := by
      cases d <;> first | exact .inl qx | exact .inr qx | cases qx
    rcases hy with qx | qx
    · obtain ⟨G2, f2, a, vs, rfl, r2, st2, hs, hr⟩ := fz_list r' qx
      exact ⟨a, rfl, .inl ⟨⟨vs, sqL_sub hs fun a o h => (r2.sub a o h).1⟩, h1 _ _ rfl _ _ _ _ (st.trans st2) r2 (seqL_ok hs hr)⟩⟩
    · obtain ⟨G2, f2, a, vs, rfl, r2, st2, hs, hr⟩ := fz_tup r' qx
      exact ⟨a, rfl, .inr ⟨⟨vs, hs⟩, h1 _ _ rfl _ _ _ _ (st.trans st2) r2 (seqT_ok hs hr)⟩⟩
  · subst e
    exact h rs _ q sg G H ts tv fp _ hR (fun d' rs' er => by cases er) (fun x' rs' er => by cases er; exact h2 _ _ rfl)
end
end Pv

set_option maxHeartbeats 2000000
/-! zip of a list and a tuple -/
namespace Pv
open PySem
open PySem.Sem (wp)
section
variable {prog : Program} {w : World} {A : Around} {E : Value → Shared → Prop} {s : Shared}
theorem zipM_next_item {z TI TO i1 i2 l1 l2 : Addr} {k1 k2 : Nat} {xs ys : Array Value} {x y a b : Value} {Q : Value → Shared → Prop} (D : ZipApart z TI TO i1 i2 l1 l2)
    (hz : IsZip s.heap z TI TO .none) (hTI : IsPair s.heap TI (.ref i1) (.ref i2)) (hTO : IsPair s.heap TO a b)
    (h1 : s.heap.IsListIter i1 l1 k1) (h2 : s.heap.IsTupleIter i2 l2 k2) (hl1 : s.heap.IsList l1 xs) (hl2 : s.heap.IsTuple l2 ys) (hx : xs[k1]? = some x) (hy : ys[k2]? = some y)
    (hQ : ∀ h', IsZip h' z TI TO (rawInt s.heap.objs.size) → IsPair h' TO x y → h'.IsListIter i1 l1 (k1 + 1) → h'.IsTupleIter i2 l2 (k2 + 1) → IsPair h' s.heap.objs.size x y → h'.objs.size = s.heap.objs.size + 1 →
      (∀ c o, c ≠ z → c ≠ TO → c ≠ i1 → c ≠ i2 → s.heap.get? c = some o → h'.get? c = some o) → Q (.ref s.heap.objs.size) { s with heap := h' }) :
    wpAny (model prog w) A (Builtin.«zip.__next__» ⟨[.ref z], []⟩) (fun fin s' => ∃ v, fin = .done (.ret v) ∧ Q v s') E s := by
  show wpAny _ _ (field (.ref z) 2 >>= _) _ _ _
  refine wpAny_bind (wpAny_field hz rfl (x := .bool false) rfl ?_)
  show wpAny _ _ (field (.ref z) 3 >>= _) _ _ _
  refine wpAny_bind (wpAny_field hz rfl (x := .ref TI) rfl ?_)
  refine wpAny_bind (wpAny_seqItems hTI rfl ?_)
  show wpAny _ _ (Builtin.SmallTypes.ownedTupleIsFree (.ref z) >>= _) _ _ _
  refine wpAny_bind ?_
  unfold Builtin.SmallTypes.ownedTupleIsFree
  refine wpAny_bind (wpAny_field hz rfl (x := .none) rfl (wpAny_pure ?_))
  simp only [if_true]
  refine wpAny_bind (wpAny_rule ?_)
  refine wpAny_bind (wpAny_field hz rfl (x := .ref TO) rfl ?_)
  refine wpAny_bind (wpAny_setField_rec hz (by simp) fun h₁ hz₁ hs₁ => ?_)
  replace hz₁ : IsZip h₁ z TI TO .ellipsis := hz₁
  refine wpAny_bind ?_
  simp only [List.zipIdx_cons, List.zipIdx_nil, List.forIn_cons, List.forIn_nil]

  refine wpAny_bind (wpAny_bind (wpAny_onRaise ?_))
  show wpAny _ _ (Builtin.SmallTypes.nextOf (.ref i1) >>= _) _ _ _
  refine wpAny_bind (wpAny_nextOf_list_item (h1.extBut hs₁.extBut D.i1z) (hl1.extBut hs₁.extBut D.l1z) hx fun h₂ h1₂ hs₂ => wpAny_pure ?_)
  have hTO₂ : IsPair h₂ TO a b := hs₂.extBut _ _ D.TOi1 (hs₁.extBut _ _ D.TOz hTO)
  refine wpAny_bind (wpAny_seqItems hTO₂ rfl ?_)
  refine wpAny_bind (wpAny_updateSeq_pair hTO₂ fun h₃ hTO₃ hs₃ => ?_)
  replace hTO₃ : IsPair h₃ TO x b := hTO₃
  refine wpAny_bind (wpAny_letGo (wpAny_pure ?_))

  refine wpAny_bind (wpAny_bind (wpAny_onRaise ?_))
  show wpAny _ _ (Builtin.SmallTypes.nextOf (.ref i2) >>= _) _ _ _
  refine wpAny_bind (RZ.nextOf_tuple_item (((h2.extBut hs₁.extBut D.i2z).extBut hs₂.extBut D.i12.symm).extBut hs₃.extBut D.TOi2.symm)
    (((hl2.extBut hs₁.extBut D.l2z).extBut hs₂.extBut D.l2i1).extBut hs₃.extBut D.l2TO) hy fun h₄ h2₄ hs₄ => wpAny_pure ?_)
  have hTO₄ : IsPair h₄ TO x b := hs₄.extBut _ _ D.TOi2 hTO₃
  refine wpAny_bind (wpAny_seqItems hTO₄ rfl ?_)
  refine wpAny_bind (wpAny_updateSeq_pair hTO₄ fun h₅ hTO₅ hs₅ => ?_)
  replace hTO₅ : IsPair h₅ TO x y := hTO₅
  refine wpAny_bind (wpAny_letGo (wpAny_pure (wpAny_pure ?_)))

  refine wpAny_bind (wpAny_seqItems hTO₅ rfl ?_)
  refine wpAny_bind (wpAny_newTuple ?_)
  have hsz : h₅.objs.size = s.heap.objs.size := by rw [hs₅.1, hs₄.1, hs₃.1, hs₂.1, hs₁.1]
  have hz₅ : IsZip h₅ z TI TO .ellipsis := hs₅.extBut _ _ D.TOz.symm (hs₄.extBut _ _ D.i2z.symm (hs₃.extBut _ _ D.TOz.symm (hs₂.extBut _ _ D.i1z.symm hz₁)))
  have hk₅ : ∀ c o, c ≠ z → c ≠ TO → c ≠ i1 → c ≠ i2 → s.heap.get? c = some o → h₅.get? c = some o := fun c o c1 c2 c3 c4 e =>
    hs₅.extBut _ _ c2 (hs₄.extBut _ _ c4 (hs₃.extBut _ _ c2 (hs₂.extBut _ _ c3 (hs₁.extBut _ _ c1 e))))
  have h1₅ : h₅.IsListIter i1 l1 (k1 + 1) := ((h1₂.extBut hs₃.extBut D.TOi1.symm).extBut hs₄.extBut D.i12).extBut hs₅.extBut D.TOi1.symm
  have h2₅ : h₅.IsTupleIter i2 l2 (k2 + 1) := h2₄.extBut hs₅.extBut D.TOi2.symm
  have hzlt : z < h₅.objs.size := Heap.lt_size hz₅
  have hTOlt : TO < h₅.objs.size := Heap.lt_size hTO₅
  have hi1lt : i1 < h₅.objs.size := by obtain ⟨_, e, _⟩ := h1₅; exact Heap.lt_size e
  have hi2lt : i2 < h₅.objs.size := by obtain ⟨_, e, _⟩ := h2₅; exact Heap.lt_size e
  show wpAny _ _ (Builtin.SmallTypes.ownedTupleHandOut (.ref z) (.ref h₅.objs.size) >>= _) _ _ _
  refine wpAny_bind ?_
  unfold Builtin.SmallTypes.ownedTupleHandOut
  have hz₆ : IsZip (h₅.push { cls := .type "tuple", data := .seq #[x, y] }) z TI TO .ellipsis := Heap.get?_push_of_some _ hz₅
  refine wpAny_bind (wpAny_setField_rec hz₆ (by simp) fun h₇ hz₇ hs₇ => ?_)
  replace hz₇ : IsZip h₇ z TI TO (rawInt h₅.objs.size) := hz₇
  refine wpAny_setField_rec hz₇ (by simp) fun h₈ hz₈ hs₈ => ?_
  replace hz₈ : IsZip h₈ z TI TO (rawInt h₅.objs.size) := hz₈
  have up : ∀ c o, c ≠ z → h₅.get? c = some o → h₈.get? c = some o := fun c o c1 e => hs₈.extBut _ _ c1 (hs₇.extBut _ _ c1 (Heap.get?_push_of_some _ e))
  have hT₈ : IsPair h₈ h₅.objs.size x y := hs₈.extBut _ _ (Nat.ne_of_gt hzlt) (hs₇.extBut _ _ (Nat.ne_of_gt hzlt) (Heap.get?_push_size _ rfl))
  have hz8 : h₈.objs.size = h₅.objs.size + 1 := by rw [hs₈.1, hs₇.1, Heap.size_push]
  rw [hsz] at hz₈ hT₈ hz8
  refine wpAny_pure ⟨_, rfl, ?_⟩
  show Q (.ref h₅.objs.size) _
  rw [hsz]
  exact hQ h₈ hz₈ (up _ _ D.TOz hTO₅) (h1₅.at fun o e => up _ o D.i1z e) (h2₅.at fun o e => up _ o D.i2z e) hT₈ hz8 fun c o c1 c2 c3 c4 e => up c o c1 (hk₅ c o c1 c2 c3 c4 e)

theorem zipM_next_end {z TI TO i1 i2 l1 l2 : Addr} {k1 k2 : Nat} {xs ys : Array Value} {a b : Value} {Q : Fin → Shared → Prop} (hh : A.handled = none) (D : ZipApart z TI TO i1 i2 l1 l2)
    (hz : IsZip s.heap z TI TO .none) (hTI : IsPair s.heap TI (.ref i1) (.ref i2)) (hTO : IsPair s.heap TO a b)
    (h1 : s.heap.IsListIter i1 l1 k1) (h2 : s.heap.IsTupleIter i2 l2 k2) (hl1 : s.heap.IsList l1 xs) (hl2 : s.heap.IsTuple l2 ys) (hend : xs[k1]? = none ∨ ys[k2]? = none)
    (hE : ∀ h' e, (∀ c o, c ≠ z → c ≠ TO → c ≠ i1 → c ≠ i2 → s.heap.get? c = some o → h'.get? c = some o) → (∃ o, h'.get? e = some o ∧ o.cls = .type "StopIteration") → E (.ref e) { s with heap := h' }) :
    wpAny (model prog w) A (Builtin.«zip.__next__» ⟨[.ref z], []⟩) Q E s := by
  show wpAny _ _ (field (.ref z) 2 >>= _) _ _ _
  refine wpAny_bind (wpAny_field hz rfl (x := .bool false) rfl ?_)
  show wpAny _ _ (field (.ref z) 3 >>= _) _ _ _
  refine wpAny_bind (wpAny_field hz rfl (x := .ref TI) rfl ?_)
  refine wpAny_bind (wpAny_seqItems hTI rfl ?_)
  show wpAny _ _ (Builtin.SmallTypes.ownedTupleIsFree (.ref z) >>= _) _ _ _
  refine wpAny_bind ?_
  unfold Builtin.SmallTypes.ownedTupleIsFree
  refine wpAny_bind (wpAny_field hz rfl (x := .none) rfl (wpAny_pure ?_))
  simp only [if_true]
  refine wpAny_bind (wpAny_rule ?_)
  refine wpAny_bind (wpAny_field hz rfl (x := .ref TO) rfl ?_)
  refine wpAny_bind (wpAny_setField_rec hz (by simp) fun h₁ hz₁ hs₁ => ?_)
  replace hz₁ : IsZip h₁ z TI TO .ellipsis := hz₁
  refine wpAny_bind ?_
  simp only [List.zipIdx_cons, List.zipIdx_nil, List.forIn_cons, List.forIn_nil]
  refine wpAny_bind (wpAny_bind (wpAny_onRaise ?_))
  show wpAny _ _ (Builtin.SmallTypes.nextOf (.ref i1) >>= _) _ _ _
  cases hx : xs[k1]? with
  | none =>
    refine wpAny_bind (wpAny_nextOf_list_end hh (h1.extBut hs₁.extBut D.i1z) (hl1.extBut hs₁.extBut D.l1z) hx fun h₂ e hs₂ he => ?_)
    obtain ⟨oe, hoe, hce⟩ := he
    have hz₂ : IsZip h₂ z TI TO .ellipsis := hs₂ _ _ D.i1z.symm hz₁
    have hez : e ≠ z := fun x => by subst x; rw [hz₂] at hoe; cases hoe; simp at hce
    refine wpAny_setField_rec hz₂ (by simp) fun h₃ _ hs₃ => hE h₃ e (fun c o c1 _ c3 _ x => hs₃.extBut _ _ c1 (hs₂ _ _ c3 (hs₁.extBut _ _ c1 x))) ⟨oe, hs₃.extBut _ _ hez hoe, hce⟩
  | some x =>
    have hy : ys[k2]? = none := by rcases hend with h | h; rw [hx] at h; cases h; exact h
    refine wpAny_bind (wpAny_nextOf_list_item (h1.extBut hs₁.extBut D.i1z) (hl1.extBut hs₁.extBut D.l1z) hx fun h₂ h1₂ hs₂ => wpAny_pure ?_)
    have hTO₂ : IsPair h₂ TO a b := hs₂.extBut _ _ D.TOi1 (hs₁.extBut _ _ D.TOz hTO)
    refine wpAny_bind (wpAny_seqItems hTO₂ rfl ?_)
    refine wpAny_bind (wpAny_updateSeq_pair hTO₂ fun h₃ hTO₃ hs₃ => ?_)
    refine wpAny_bind (wpAny_letGo (wpAny_pure ?_))
    refine wpAny_bind (wpAny_bind (wpAny_onRaise ?_))
    show wpAny _ _ (Builtin.SmallTypes.nextOf (.ref i2) >>= _) _ _ _
    refine wpAny_bind (RZ.nextOf_tuple_end hh (((h2.extBut hs₁.extBut D.i2z).extBut hs₂.extBut D.i12.symm).extBut hs₃.extBut D.TOi2.symm)
      (((hl2.extBut hs₁.extBut D.l2z).extBut hs₂.extBut D.l2i1).extBut hs₃.extBut D.l2TO) hy fun h₄ e hs₄ he => ?_)
    obtain ⟨oe, hoe, hce⟩ := he
    have hz₄ : IsZip h₄ z TI TO .ellipsis := hs₄ _ _ D.i2z.symm (hs₃.extBut _ _ D.TOz.symm (hs₂.extBut _ _ D.i1z.symm hz₁))
    have hez : e ≠ z := fun x => by subst x; rw [hz₄] at hoe; cases hoe; simp at hce
    refine wpAny_setField_rec hz₄ (by simp) fun h₅ _ hs₅ => hE h₅ e (fun c o c1 c2 c3 c4 x => hs₅.extBut _ _ c1 (hs₄ _ _ c4 (hs₃.extBut _ _ c2 (hs₂.extBut _ _ c3 (hs₁.extBut _ _ c1 x))))) ⟨oe, hs₅.extBut _ _ hez hoe, hce⟩

theorem pyNext_zipM_item {z TI TO i1 i2 l1 l2 : Addr} {k1 k2 : Nat} {xs ys : Array Value} {x y a b : Value} {Q : Option Value → Shared → Prop} (D : ZipApart z TI TO i1 i2 l1 l2)
    (hz : IsZip s.heap z TI TO .none) (hTI : IsPair s.heap TI (.ref i1) (.ref i2)) (hTO : IsPair s.heap TO a b)
    (h1 : s.heap.IsListIter i1 l1 k1) (h2 : s.heap.IsTupleIter i2 l2 k2) (hl1 : s.heap.IsList l1 xs) (hl2 : s.heap.IsTuple l2 ys) (hx : xs[k1]? = some x) (hy : ys[k2]? = some y)
    (hQ : ∀ h', IsZip h' z TI TO (rawInt s.heap.objs.size) → IsPair h' TO x y → h'.IsListIter i1 l1 (k1 + 1) → h'.IsTupleIter i2 l2 (k2 + 1) → IsPair h' s.heap.objs.size x y → h'.objs.size = s.heap.objs.size + 1 →
      (∀ c o, c ≠ z → c ≠ TO → c ≠ i1 → c ≠ i2 → s.heap.get? c = some o → h'.get? c = some o) → Q (some (.ref s.heap.objs.size)) { s with heap := h' }) :
    wpAny (model prog w) A (pyNext (.ref z)) Q E s := by
  have hT : s.TypeIs (.ref z) "zip" := ⟨_, hz, rfl⟩
  unfold pyNext
  exact wpAny_bind (wpAny_attempt (wpAny_callSpecial?_slot (name := Str.ofString "__next__") hT F.slot_zip_next
    (wpAny_call_entry F.slot_zip_next hT F.entry_zip_next
      (zipM_next_item D hz hTI hTO h1 h2 hl1 hl2 hx hy fun h' a1 a2 a3 a4 a5 a6 a7 => wpAny_pure (hQ h' a1 a2 a3 a4 a5 a6 a7)) (F.args_zip_next_1 _))))

theorem pyNext_zipM_end {z TI TO i1 i2 l1 l2 : Addr} {k1 k2 : Nat} {xs ys : Array Value} {a b : Value} {Q : Option Value → Shared → Prop} (hh : A.handled = none) (D : ZipApart z TI TO i1 i2 l1 l2)
    (hz : IsZip s.heap z TI TO .none) (hTI : IsPair s.heap TI (.ref i1) (.ref i2)) (hTO : IsPair s.heap TO a b)
    (h1 : s.heap.IsListIter i1 l1 k1) (h2 : s.heap.IsTupleIter i2 l2 k2) (hl1 : s.heap.IsList l1 xs) (hl2 : s.heap.IsTuple l2 ys) (hend : xs[k1]? = none ∨ ys[k2]? = none)
    (hQ : ∀ h', (∀ c o, c ≠ z → c ≠ TO → c ≠ i1 → c ≠ i2 → s.heap.get? c = some o → h'.get? c = some o) → Q none { s with heap := h' }) : wpAny (model prog w) A (pyNext (.ref z)) Q E s := by
  have hT : s.TypeIs (.ref z) "zip" := ⟨_, hz, rfl⟩
  unfold pyNext
  refine wpAny_bind (wpAny_attempt (wpAny_callSpecial?_slot (name := Str.ofString "__next__") hT F.slot_zip_next
    (wpAny_call_entry F.slot_zip_next hT F.entry_zip_next (zipM_next_end hh D hz hTI hTO h1 h2 hl1 hl2 hend fun h' e hk he => ?_) (F.args_zip_next_1 _))))
  obtain ⟨o, ho, hc⟩ := he
  refine wpAny_bind (wpAny_isInstance (T := "StopIteration") (b := true) ⟨o, ho, hc⟩ isSubtype_stop ?_)
  exact wpAny_pure (hQ _ hk)
end

abbrev zipMH1 (h : Heap) (l1 : Addr) : Heap := h.push { cls := .type "list_iterator", data := .fields #[.ref l1, .int 0 0] }
abbrev zipMH2 (h : Heap) (l1 l2 : Addr) : Heap := (zipMH1 h l1).push { cls := .type "tuple_iterator", data := .fields #[.ref l2, .int 0 0] }
abbrev zipMH3 (h : Heap) (l1 l2 : Addr) : Heap := (zipMH2 h l1 l2).push { cls := .type "tuple", data := .seq #[.ref h.objs.size, .ref (zipMH1 h l1).objs.size] }
abbrev zipMH4 (h : Heap) (l1 l2 : Addr) : Heap := (zipMH3 h l1 l2).push { cls := .type "tuple", data := .seq #[.none, .none] }
abbrev zipMH5 (h : Heap) (l1 l2 : Addr) : Heap := (zipMH4 h l1 l2).push { cls := .type "zip", data := .fields #[.none, .bool false, .bool false, .ref (zipMH2 h l1 l2).objs.size, .ref (zipMH3 h l1 l2).objs.size] }

theorem meets_zipM_new (l1 l2 : Addr) (xs ys : Array Value) :
    Meets (Builtin.«zip.__new__» ⟨[.type "zip", .ref l1, .ref l2], []⟩) (fun _ R s => s.heap.IsList l1 xs ∧ s.heap.IsTuple l2 ys ∧
      R (.ok (.ret (.ref (zipMH4 s.heap l1 l2).objs.size))) { s with heap := zipMH5 s.heap l1 l2 }) :=
  .of_wp fun prog w A R s h => by
    obtain ⟨hp, g, d, tk, os⟩ := s; obtain ⟨hl1, hl2, h⟩ := h
    have hsub := sub_zip
    have hL1 : Heap.IsList (Shared.heap ⟨hp, g, d, tk, os⟩) l1 xs := hl1
    have hL2 : Heap.IsTuple (Shared.heap ⟨hp.push { cls := .type "list_iterator", data := .fields #[.ref l1, .int 0 0] }, g, d, tk, os⟩) l2 ys := Heap.IsTuple.push hl2 _
    wp_walk using wpAny_pyIter_list hL1, wpAny_pyIter_tuple hL2
    exact ⟨_, rfl, h⟩

section
variable {prog : Program} {w : World} {A : Around} {E : Value → Shared → Prop} {s : Shared}

theorem call_zipM {l1 l2 : Addr} {xs ys : Array Value} {Q : Value → Shared → Prop} (hl1 : s.heap.IsList l1 xs) (hl2 : s.heap.IsTuple l2 ys)
    (h : ∀ h', IsZip h' (s.heap.objs.size + 4) (s.heap.objs.size + 2) (s.heap.objs.size + 3) .none → IsPair h' (s.heap.objs.size + 2) (.ref s.heap.objs.size) (.ref (s.heap.objs.size + 1)) →
      IsPair h' (s.heap.objs.size + 3) .none .none → h'.IsListIter s.heap.objs.size l1 0 → h'.IsTupleIter (s.heap.objs.size + 1) l2 0 → h'.objs.size = s.heap.objs.size + 5 →
      (∀ c o, s.heap.get? c = some o → h'.get? c = some o) → Q (.ref (s.heap.objs.size + 4)) { s with heap := h' }) :
    wpAny (model prog w) A (call (.type "zip") [.ref l1, .ref l2]) Q E s := by
  refine callType_new F.called_zip (by decide) (F.typeCall_zip_2 _ _) (F.newCall_zip_2 _ _) (fun obj => F.args_object_init_3 obj _ _) F.entry_zip_new
    (meets_zipM_new l1 l2 xs ys) ⟨hl1, hl2, ?_⟩
  have z1 : (zipMH1 s.heap l1).objs.size = s.heap.objs.size + 1 := Heap.size_push ..
  have z2 : (zipMH2 s.heap l1 l2).objs.size = s.heap.objs.size + 2 := by rw [Heap.size_push, z1]
  have z3 : (zipMH3 s.heap l1 l2).objs.size = s.heap.objs.size + 3 := by rw [Heap.size_push, z2]
  have z4 : (zipMH4 s.heap l1 l2).objs.size = s.heap.objs.size + 4 := by rw [Heap.size_push, z3]
  have z5 : (zipMH5 s.heap l1 l2).objs.size = s.heap.objs.size + 5 := by rw [Heap.size_push, z4]
  have g5 : (zipMH5 s.heap l1 l2).get? (zipMH4 s.heap l1 l2).objs.size = some _ := Heap.get?_push_size _ rfl
  have g4 : (zipMH5 s.heap l1 l2).get? (zipMH3 s.heap l1 l2).objs.size = some _ := Heap.get?_push_of_some _ (Heap.get?_push_size _ rfl)
  have g3 : (zipMH5 s.heap l1 l2).get? (zipMH2 s.heap l1 l2).objs.size = some _ := Heap.get?_push_of_some _ (Heap.get?_push_of_some _ (Heap.get?_push_size _ rfl))
  have g2 : (zipMH5 s.heap l1 l2).get? (zipMH1 s.heap l1).objs.size = some _ := Heap.get?_push_of_some _ (Heap.get?_push_of_some _ (Heap.get?_push_of_some _ (Heap.get?_push_size _ rfl)))
  have g1 : (zipMH5 s.heap l1 l2).get? s.heap.objs.size = some _ := Heap.get?_push_of_some _ (Heap.get?_push_of_some _ (Heap.get?_push_of_some _ (Heap.get?_push_of_some _ (Heap.get?_push_size _ rfl))))
  show _ ∧ _
  rw [z2, z3, z4] at g5
  rw [z1, z2] at g3
  rw [z3] at g4
  rw [z1] at g2
  rw [z4]
  exact ⟨⟨_, g5, rfl⟩, h _ g5 g3 g4 ⟨_, g1, rfl, rfl⟩ ⟨_, g2, rfl, rfl⟩ z5 fun c o x =>
    Heap.get?_push_of_some _ (Heap.get?_push_of_some _ (Heap.get?_push_of_some _ (Heap.get?_push_of_some _ (Heap.get?_push_of_some _ x))))⟩
end
end Pv
namespace Pv
open PySem PySem.Spec PyProof.Rows L2
/-- the tuples at a and b as they stand at each turn, the items in new pairs -/
def ItzM (K : PySem.W.Frag) (a b : Addr) : It :=
  ⟨fun i H => ∃ (xs ys : List V) (x y : V), SqL K H a xs ∧ SqT K H b ys ∧ xs[i]? = some x ∧ ys[i]? = some y,
    fun i H v H' => ∃ T x y, v = .ref T ∧ H T = none ∧ H' = upd H T (.tup [x, y]) ∧ (∀ xs, SqL K H a xs → xs[i]? = some x) ∧ ∀ ys, SqT K H b ys → ys[i]? = some y,
    fun i H => ∃ xs ys : List V, SqL K H a xs ∧ SqT K H b ys ∧ (xs.length ≤ i ∨ ys.length ≤ i)⟩
theorem turn_zipM {P : Program} {w : World} {K : PySem.W.Frag} {elts : List Expr} {kk : Nat} {tpos : Pos} {a b z TI TO i1 i2 : Addr} (D : ZipApart z TI TO i1 i2 a b) :
    Turn P w K (.Tuple elts kk tpos) (ItzM K a b) [z, TI, TO, i1, i2] z (fun i h => IsZip h z TI TO .none ∧ IsPair h TI (.ref i1) (.ref i2) ∧ (∃ x y, IsPair h TO x y) ∧ h.IsListIter i1 a i ∧ h.IsTupleIter i2 b i) where
  mem := by simp
  obj := fun i h st c hc => by
    obtain ⟨hz, hTI, ⟨x, y, hTO⟩, ⟨o1, e1, _, d1⟩, ⟨o2, e2, _, d2⟩⟩ := st
    have e' : c = z ∨ c = TI ∨ c = TO ∨ c = i1 ∨ c = i2 := by simpa using hc
    rcases e' with q | q | q | q | q
    · rw [q]; exact ⟨_, hz, fun v q => nomatch q⟩
    · rw [q]; exact ⟨_, hTI, fun v q => nomatch q⟩
    · rw [q]; exact ⟨_, hTO, fun v q => nomatch q⟩
    · rw [q]; exact ⟨o1, e1, fun v q => by rw [d1] at q; cases q⟩
    · rw [q]; exact ⟨o2, e2, fun v q => by rw [d2] at q; cases q⟩
  keep := fun i h h' st k => by
    obtain ⟨hz, hTI, ⟨x, y, hTO⟩, h1, h2⟩ := st
    exact ⟨k z (by simp) _ hz, k TI (by simp) _ hTI, ⟨x, y, k TO (by simp) _ hTO⟩, h1.at fun o q => k i1 (by simp) o q, h2.at fun o q => k i2 (by simp) o q⟩
  item := by
    intro X hP hw hK hc i pins s σ H E I hf st hg
    subst hP hw hK
    obtain ⟨hz, hTI, ⟨x0, y0, hTO⟩, h1, h2⟩ := st
    obtain ⟨xs, ys, x, y, hqx, hqy, hx, hy⟩ := hg
    obtain ⟨its, rv, p, _⟩ := I.list hqx
    obtain ⟨its2, rv2, p2, _⟩ := I.tuple hqy
    obtain ⟨u, hu, ru⟩ := rv.get hx
    obtain ⟨u2, hu2, ru2⟩ := rv2.get hy
    have hzl : z < s.heap.objs.size := Heap.lt_size hz
    refine pyNext_zipM_item D hz hTI hTO h1 h2 p.isList p2 (x := u) (y := u2) (by simpa using hu) (by simpa using hu2) fun h' z' TO' h1' h2' hT hsz hk => ?_
    refine ⟨_, rfl, wpAny_letOwnedTupleGo_zip (s := { s with heap := h' }) z' fun h'' z'' sb => ?_⟩
    have hT2 : h''.get? s.heap.objs.size = some { cls := .type "tuple", data := .seq #[u, u2] } := (sb.2 _ (Nat.ne_of_gt hzl)).trans hT
    have new : ObjOk X.prog X.w (upd H s.heap.objs.size (.tup [x, y])) h'' s.heap.objs.size (.tup [x, y]) :=
      ⟨by show 2 ≤ sizeLine; decide, [u, u2], .cons ru (.cons ru2 .nil), ⟨_, hT2, rfl, _, rfl⟩⟩
    have I1 : Inv X pins σ (upd H s.heap.objs.size (.tup [x, y])) { s with heap := h'' } :=
      I.turnedNew (t' := s.toks) (ch := [z, TI, TO, i1, i2]) (fun c o hb q => (sb.2 c (fun q' => hb (by simp [q']))).trans (hk c o (fun q' => hb (by simp [q'])) (fun q' => hb (by simp [q'])) (fun q' => hb (by simp [q'])) (fun q' => hb (by simp [q'])) q)) hf (Nat.le_refl _) new
    refine ⟨.ref s.heap.objs.size, _, I1, rfl, ⟨_, x, y, rfl, I.hok.fresh (Nat.le_refl _), rfl, fun l hl => by rw [I.list_inj hl hqx]; exact hx, fun l hl => by rw [I.tuple_inj hl hqy]; exact hy⟩, ⟨z'', ?_, ⟨u, u2, ?_⟩, ?_, ?_⟩, fun c hcm => ?_⟩
    · exact (sb.2 _ D.TIz).trans (hk _ _ D.TIz D.TITO D.TIi1 D.TIi2 hTI)
    · exact (sb.2 _ D.TOz).trans TO'
    · exact h1'.at fun o q => (sb.2 _ D.i1z).trans q
    · exact h2'.at fun o q => (sb.2 _ D.i2z).trans q
    · have hlt : c < s.heap.objs.size := by
        have e' : c = z ∨ c = TI ∨ c = TO ∨ c = i1 ∨ c = i2 := by simpa using hcm
        rcases e' with q | q | q | q | q
        · rw [q]; exact hzl
        · rw [q]; exact Heap.lt_size hTI
        · rw [q]; exact Heap.lt_size hTO
        · rw [q]; obtain ⟨_, e1, _⟩ := h1; exact Heap.lt_size e1
        · rw [q]; obtain ⟨_, e2, _⟩ := h2; exact Heap.lt_size e2
      rw [upd_ne (Nat.ne_of_lt hlt)]
      exact (hf c hcm).1
  done := by
    intro X hP hw hK hc i pins s σ H E I hf st hg
    subst hP hw hK
    obtain ⟨hz, hTI, ⟨x0, y0, hTO⟩, h1, h2⟩ := st
    obtain ⟨xs, ys, hqx, hqy, hend⟩ := hg
    obtain ⟨its, rv, p, _⟩ := I.list hqx
    obtain ⟨its2, rv2, p2, _⟩ := I.tuple hqy
    have l1 := rv.length
    have l2 := rv2.length
    have he : its.toArray[i]? = none ∨ its2.toArray[i]? = none := by
      rcases hend with q | q
      · exact .inl (by simp; omega)
      · exact .inr (by simp; omega)
    exact pyNext_zipM_end (I.ok.hd hc) D hz hTI hTO h1 h2 p.isList p2 he fun h' hk => ⟨rfl, I.turnedL (t' := s.toks) (ch := [z, TI, TO, i1, i2]) (fun c o hb q =>
      hk c o (fun q' => hb (by simp [q'])) (fun q' => hb (by simp [q'])) (fun q' => hb (by simp [q'])) (fun q' => hb (by simp [q'])) q) hf⟩
  self := fun A i s Q E st h => wpAny_pyIter_zip st.1 h


/-- zip of a list and a list or a tuple -/
def iZipM (K : PySem.W.Frag) (ta : TA) : TI := fun σ H R => ta σ H fun vs H1 => ∃ a b xs ys, vs = [.ref a, .ref b] ∧ SqL K H1 a xs ∧ ((SqL K H1 b ys ∧ R (Itz K a b) H1) ∨ (SqT K H1 b ys ∧ R (ItzM K a b) H1))
theorem pi_zipM {X : Cx} {e e2 : Expr} {ta : TA} {p pos tpos : Pos} {elts : List Expr} {kk : Nat} (hg : Gl X "zip") (hm : X.mg "zip" = none) (ha : PA X [e, e2] ta)
    (hs : starEach [e, e2] X.env = (false, eval e X.env) :: starEach [e2] X.env := by rfl) (hpl : (backTo pos (starEach [e2] X.env)).any (·.1) = false := by rfl) :
    PI X (.Tuple elts kk tpos) (.Call (.Name "zip" p) [e, e2] [] pos) (iZipM X.K ta) := by
  refine ⟨fun pins s σ H R I h => ?_⟩
  refine Call_ (ld_blt I hg hm PyProof.Rows.boot_zip (PyProof.Rows.callWith_type1 (thn (ha.run pos pins s σ H _ I h) fun us s1 ⟨vs, H1, I1, r1, q1⟩ => ?_) hs hpl))
  obtain ⟨a, b, xs, ys, ex, hqx, q1⟩ := q1
  subst ex
  cases r1 with
  | cons r rr =>
    cases rr with
    | cons r' rr =>
      cases rr
      cases r
      cases r'
      have fresh5 : ∀ c, c ∈ [s1.heap.objs.size + 4, s1.heap.objs.size + 2, s1.heap.objs.size + 3, s1.heap.objs.size, s1.heap.objs.size + 1] → FpOk X pins H1 c := fun c hcm => by
        have e' : c = s1.heap.objs.size + 4 ∨ c = s1.heap.objs.size + 2 ∨ c = s1.heap.objs.size + 3 ∨ c = s1.heap.objs.size ∨ c = s1.heap.objs.size + 1 := by simpa using hcm
        have hle : s1.heap.objs.size ≤ c := by
          rcases e' with z | z | z | z | z
          · rw [z]; exact Nat.le_add_right _ _
          · rw [z]; exact Nat.le_add_right _ _
          · rw [z]; exact Nat.le_add_right _ _
          · rw [z]; exact Nat.le_refl _
          · rw [z]; exact Nat.le_add_right _ _
        exact I1.fpOk hle (I1.hok.fresh hle)
      obtain ⟨its, rv, p1, _⟩ := I1.list hqx
      rcases q1 with ⟨hqy, q⟩ | ⟨hqy, q⟩
      · obtain ⟨its2, rv2, p2, _⟩ := I1.list hqy
        refine call_zip_2 p1.isList p2.isList fun h' hz hTI hTO h1 h2 hsz hk => wpAny_pyIter_zip hz ?_
        have I2 : Inv X pins σ H1 { s1 with heap := h' } := I1.kept (t' := s1.toks) hk
        exact ⟨s1.heap.objs.size + 4, [s1.heap.objs.size + 4, s1.heap.objs.size + 2, s1.heap.objs.size + 3, s1.heap.objs.size, s1.heap.objs.size + 1], _, _, H1, rfl, I2, turn_zip (PySem.W.ktu_apart s1.heap.objs.size a b p1.lt p2.lt), ⟨hz, hTI, ⟨_, _, hTO⟩, h1, h2⟩, fresh5, q⟩
      · obtain ⟨its2, rv2, p2, _⟩ := I1.tuple hqy
        obtain ⟨o2, ho2, _⟩ := id p2
        refine call_zipM p1.isList (show s1.heap.IsTuple b its2.toArray from p2) fun h' hz hTI hTO h1 h2 hsz hk => wpAny_pyIter_zip hz ?_
        have I2 : Inv X pins σ H1 { s1 with heap := h' } := I1.kept (t' := s1.toks) hk
        exact ⟨s1.heap.objs.size + 4, [s1.heap.objs.size + 4, s1.heap.objs.size + 2, s1.heap.objs.size + 3, s1.heap.objs.size, s1.heap.objs.size + 1], _, _, H1, rfl, I2, turn_zipM (PySem.W.ktu_apart s1.heap.objs.size a b p1.lt (Heap.lt_size ho2)), ⟨hz, hTI, ⟨_, _, hTO⟩, h1, h2⟩, fresh5, q⟩
section
variable {X : Cx} {W : WX}
theorem zipM_ok {K : Fr} {mg : Str → Option Value} {G H0 : Hp} {a b : Addr} {vs ws : List V} {xs ys : List D} (hs : SqL K G a vs) (hr : Reps K mg G H0 xs vs (fun _ => False)) (hs' : SqT K H0 b ws) (hr' : Reps K mg G H0 ys ws (fun _ => False)) : ItOk K mg G H0 (ItzM K a b) (zipD xs ys) where
  go := fun i H h hg ht => by
    rw [zipD_len] at h
    obtain ⟨v, hv, _⟩ := reps_at hr (List.getElem?_eq_getElem (show i < xs.length by omega))
    obtain ⟨w, hw, _⟩ := reps_at hr' (List.getElem?_eq_getElem (show i < ys.length by omega))
    exact ⟨vs, ws, v, w, sqL_sub hs hg, ht _ _ hs', hv, hw⟩
  yld := fun i H x H' d e hg ht hy => by
    obtain ⟨T, w1, w2, rfl, hT, rfl, hy1, hy2⟩ := hy
    obtain ⟨x, y, e1, e2, rfl⟩ := zipD_get e
    obtain ⟨v, hv, rp⟩ := reps_at hr e1
    obtain ⟨w, hw, rq⟩ := reps_at hr' e2
    have q := Option.some.inj (hv.symm.trans (hy1 vs (sqL_sub hs hg)))
    subst q
    have q := Option.some.inj (hw.symm.trans (hy2 ws (ht _ _ hs')))
    subst q
    have ex : ∀ a o, H a = some o → upd H T (.tup [v, w]) a = some o := fun a o h => by rw [upd_ne (ne_of_none h hT)]; exact h
    have tu : ∀ a vs, SqT K H0 a vs → SqT K (upd H T (.tup [v, w])) a vs := fun a vs h => sqT_ex (ht a vs h) ex
    exact ⟨ex, rep_pair upd_same (rep_mono (fun _ _ h => h) tu x (fun _ _ z => z.elim) rp) (rep_mono (fun _ _ h => h) tu y (fun _ _ z => z.elim) rq)⟩
  stop := fun i H h hg ht => ⟨vs, ws, sqL_sub hs hg, ht _ _ hs', by rw [zipD_len] at h; rw [← reps_len hr, ← reps_len hr']; omega⟩
theorem satI_zip {ta tb : TE} {a b : E} (ha : Sat X W ta (evE a false)) (hb : Sat X W tb (evE b false)) : SatI X W (iZipM X.K (runs [ta, tb])) (fun rs => Res.bd (evE a false rs) fun d rs1 => Res.bd (evE b false rs1) fun d2 rs2 => ob (lItems (fz d)) fun xs => ob (itemsOf (fz d2)) fun ys => some (.ok (zipD xs ys) rs2)) := by
  intro rs r e sg G H ts tv fp Rk hR h1 h2
  show ta sg H fun x H1 => tb sg H1 fun y H2 => _
  rcases bd_some e with ⟨d, rs1, q, e⟩ | ⟨x, rs1, q, e⟩
  · refine ha rs _ q sg G H ts tv fp _ hR (fun d' rs' er v G' H' f' st r' => ?_) (fun x rs' er => by cases er)
    cases er
    rcases bd_some e with ⟨d2, rs2, q2, e⟩ | ⟨x, rs2, q2, e⟩
    · refine hb rs1 _ q2 sg G' H' _ _ f' _ r' (fun d' rs' er w G2 H2 f2 st2 r2 => ?_) (fun x rs' er => by cases er)
      cases er
      obtain ⟨xs, qx, e⟩ := ob_some e
      obtain ⟨ys, qy, e⟩ := ob_some e
      cases e
      have hy : lItems (fz d2) = some ys ∨ tItems (fz d2) = some ys := by
        cases d2 <;> first | exact .inl qy | exact .inr qy | cases qy
      rcases hy with qy | qy
      · obtain ⟨G3, f3, b, ws, rfl, r3, st3, hs', hr'⟩ := fz_list r2 qy
        obtain ⟨G4, f4, a, vs, rfl, r4, st4, hs, hr⟩ := fz_list r3 qx
        exact ⟨a, b, vs, ws, rfl, sqL_sub hs fun a o h => (r4.sub a o h).1, .inl ⟨sqL_sub hs' fun a o h => (r3.sub a o h).1, h1 _ _ rfl _ _ _ _ ((st.trans st2).trans (st3.trans st4)) r4 (zip_ok hs hr (sqL_sub hs' st4.grow) (reps_mono st4.grow (fun _ _ h => h) ys (fun _ _ z => z.elim) hr'))⟩⟩
      · obtain ⟨G3, f3, b, ws, rfl, r3, st3, hs', hr'⟩ := fz_tup r2 qy
        obtain ⟨G4, f4, a, vs, rfl, r4, st4, hs, hr⟩ := fz_list r3 qx
        exact ⟨a, b, vs, ws, rfl, sqL_sub hs fun a o h => (r4.sub a o h).1, .inr ⟨hs', h1 _ _ rfl _ _ _ _ ((st.trans st2).trans (st3.trans st4)) r4 (zipM_ok hs hr hs' (reps_mono st4.grow (fun _ _ h => h) ys (fun _ _ z => z.elim) hr'))⟩⟩
    · subst e
      exact hb rs1 _ q2 sg G' H' _ _ f' _ r' (fun d' rs' er => by cases er) (fun x' rs' er => by cases er; exact (h2 _ _ rfl).step st)
  · subst e
    exact ha rs _ q sg G H ts tv fp _ hR (fun d' rs' er => by cases er) (fun x' rs' er => by cases er; exact h2 _ _ rfl)
end
end Pv

set_option maxHeartbeats 2000000
namespace Pv
open PySem PySem.Spec PyProof.Rows L2
/-! ### comprehensions -/
section
variable {K : Fr} {mg : Str → Option Value} {G G' H H' : Hp} {fp f1 f2 : FP} {ts : List D} {tv : List V} {rs : List D} {sg : L2.St}
/-- a slot whose value counts no more -/
theorem R.setUn {i : Nat} (ov : Option V) (r : R K mg G H ts tv rs sg fp) : ∃ fp', R K mg G H ts tv (rs.set i .un) (sg.set i ov) fp' ∧ Step K G H fp G H fp' := by
  by_cases hi : i < rs.length
  · obtain ⟨⟨ft, fs, h1, h2, h3, h4⟩, sub⟩ := r
    obtain ⟨fq, q1, q2⟩ := repsO_put (ov := ov) (f1 := fun _ => False) h2 (repO_un fun _ z => z) (fun _ z => z.elim) hi
    have hle : ∀ a, ft a ∨ fq a → fp a := fun a z => by
      rcases z with z | z
      · exact (h4 a).2 (.inl z)
      · rcases q2 a z with z | z
        · exact z.elim
        · exact (h4 a).2 (.inr z)
    refine ⟨fun a => ft a ∨ fq a, ⟨⟨ft, fq, h1, q1, fun a ha hb => ?_, fun _ => Iff.rfl⟩, fun a o e => ⟨(sub a o e).1, fun z => (sub a o e).2 (hle a z)⟩⟩, .less hle⟩
    rcases q2 a hb with z | z
    · exact z.elim
    · exact h3 a ha z
  · have hl := r.len
    rw [List.set_eq_of_length_le (by omega), List.set_eq_of_length_le (by omega)]
    exact ⟨fp, r, .refl⟩
theorem R.wipes : ∀ {own : List Nat} {fp : FP}, R K mg G H ts tv rs sg fp → ∃ fp', R K mg G H ts tv (wipeD rs own) (wipe sg own) fp' ∧ Step K G H fp G H fp'
  | [], fp, r => ⟨fp, r, .refl⟩
  | i :: own, fp, r => by
    obtain ⟨f1, r1, s1⟩ := R.wipes (own := own) r
    obtain ⟨f2, r2, s2⟩ := r1.setUn (i := i) none
    exact ⟨f2, r2, s1.trans s2⟩
theorem wipeD_set (i : Nat) : ∀ (own : List Nat) (rs : List D), wipeD (rs.set i .un) own = (wipeD rs own).set i .un
  | [], rs => rfl
  | j :: own, rs => by
    simp only [wipeD, wipeD_set i own rs]
    by_cases h : i = j
    · subst h; rfl
    · rw [List.set_comm _ _ h]
theorem R.unwipes : ∀ {own : List Nat} {rs : List D} {fp : FP}, R K mg G H ts tv rs (wipe sg own) fp → ∃ fp', R K mg G H ts tv (wipeD rs own) sg fp' ∧ Step K G H fp G H fp'
  | [], rs, fp, r => ⟨fp, r, .refl⟩
  | i :: own, rs, fp, r => by
    have r : R K mg G H ts tv rs ((wipe sg own).set i none) fp := r
    obtain ⟨f1, r1, s1⟩ := r.setUn (i := i) ((wipe sg own).getD i none)
    rw [List.set_set] at r1
    have e : (wipe sg own).set i ((wipe sg own).getD i none) = wipe sg own := by
      by_cases hi : i < (wipe sg own).length
      · refine set_same ?_
        rw [List.getD_eq_getElem?_getD, List.getElem?_eq_getElem hi]; rfl
      · exact List.set_eq_of_length_le (by omega)
    rw [e] at r1
    obtain ⟨f2, r2, s2⟩ := R.unwipes (own := own) r1
    rw [wipeD_set] at r2
    exact ⟨f2, r2, s1.trans s2⟩
theorem wipe_in {i : Nat} : ∀ {own : List Nat}, i ∈ own → i < sg.length → (wipe sg own)[i]? = some none
  | j :: own, h, hl => by
    unfold wipe
    by_cases e : j = i
    · subst e
      rw [List.getElem?_set_self (by rw [wipe_length]; exact hl)]
    · rw [List.getElem?_set_ne e]
      exact wipe_in ((List.mem_cons.mp h).resolve_left fun z => e z.symm) hl
theorem wipe_eq {sg' : L2.St} {own : List Nat} (hl : sg'.length = sg.length) (h : ∀ k, k < sg.length → k ∉ own → sg'[k]? = sg[k]?) : wipe sg' own = wipe sg own := by
  apply List.ext_getElem?
  intro k
  by_cases hk : k < sg.length
  · by_cases ho : k ∈ own
    · rw [wipe_in ho (by omega), wipe_in ho hk]
    · rw [wipe_out ho, wipe_out ho, h k hk ho]
  · rw [List.getElem?_eq_none (by rw [wipe_length]; omega), List.getElem?_eq_none (by rw [wipe_length]; omega)]
end
/-- the readings by what is reckoned -/
def tEvE (K : Fr) (mg : Str → Option Value) (ev : List D → Option (Res D)) : TE := fun sg H Q => ∃ rs d rs' G ts tv fp, ev rs = some (.ok d rs') ∧ R K mg G H ts tv rs sg fp ∧ ∀ v G' H' fp', Step K G H fp G' H' fp' → R K mg G' H' (d :: ts) (v :: tv) rs' sg fp' → Q v H'
def tEvB (K : Fr) (mg : Str → Option Value) (ev : List D → Option (Res D)) : TT := fun sg H Q => ∃ rs b rs' G ts tv fp, ev rs = some (.ok (.bl b) rs') ∧ R K mg G H ts tv rs sg fp ∧ ∀ G' H' fp', Step K G H fp G' H' fp' → R K mg G' H' ts tv rs' sg fp' → Q b H'
def gtOf (K : Fr) : Tg → TG
  | .nm i => gName i
  | .tp is => gTup K is.length (gNames is)
def WF : WX := fun _ _ _ _ => False
section
variable {X : Cx} {W : WX} {c : Ce} {km : Nat} {io : List Nat}
theorem pe_ev {e : Expr} {t : TE} {ev : List D → Option (Res D)} (h : PE X e t) (s : Sat X WF t ev) : PE X e (tEvE X.K X.mg ev) :=
  ⟨fun pins s0 sg H Q I ⟨rs, d, rs', G, ts, tv, fp, e, hR, hp⟩ => h.run pins s0 sg H Q I (s rs _ e sg G H ts tv fp Q hR (fun d' rs1 er => by cases er; exact hp) (fun x rs1 er => by cases er))⟩
theorem satG_of (K : Fr) {t : Tg} (hK : X.K = K) : SatG X io (gtOf K t) (tgA io t) := by
  subst hK
  cases t with
  | nm i => exact satG_nm
  | tp is => exact satG_tp
/-- the other slots -/
def others (own : List Nat) (n : Nat) : List Nat := (List.range n).filter fun i => !own.contains i
theorem setAll_io {own : List Nat} {n : Nat} : ∀ {is : List Nat} {ds rs rs' : List D}, (is.all fun i => own.contains i) = true → rs.length = n → setAll [] is ds rs = some rs' → setAll (others own n) is ds rs = some rs'
  | [], [], rs, rs', _, _, e => e
  | i :: is, d :: ds, rs, rs', h, hl, e => by
    simp only [List.all_cons, Bool.and_eq_true] at h
    simp only [setAll] at e ⊢
    split at e
    case isFalse => cases e
    rename_i ho
    have h2 := (okS_of ho).2
    have ho' : okS (others own n) rs.length i = true := by
      unfold okS others
      have hc : ((List.range n).filter fun i => !own.contains i).contains i = false := by
        rw [List.contains_eq_mem]
        simp only [decide_eq_false_iff_not, List.mem_filter]
        rintro ⟨_, z⟩
        rw [h.1] at z
        cases z
      rw [hc]
      simpa using h2
    rw [if_pos ho']
    exact setAll_io h.2 (by rw [List.length_set]; exact hl) e
  | [], _ :: _, _, _, _, _, e => by simp [setAll] at e
  | _ :: _, [], _, _, _, _, e => by simp [setAll] at e
theorem tgA_io {own : List Nat} {t : Tg} {d : D} {rs rs' : List D} (h : tgIn own t = true) (e : tgA [] t d rs = some rs') : tgA (others own rs.length) t d rs = some rs' := by
  cases t with
  | nm i =>
    have e1 : setAll [] [i] [d] rs = some rs' := by
      simp only [tgA] at e
      simp only [setAll]
      exact e
    have := setAll_io (own := own) (n := rs.length) (is := [i]) (by simpa [tgIn] using h) rfl e1
    simp only [setAll] at this
    simpa only [tgA] using this
  | tp is =>
    cases d <;> first | (cases e; done) | skip
    exact setAll_io (own := own) h rfl e
/-- A COMPREHENSION -/
theorem sat_lc {wi : TI} {ei : List D → Option (Res (List D))} {t : Tg} {own : List Nat} {cd el : List D → Option (Res D)} (ht : tgIn own t = true) (hi : SatI X W wi ei) :
    Sat X W (tLc wi (gtOf X.K t) (tEvB X.K X.mg cd) (tEvE X.K X.mg el) own) (lcD t own ei cd el) := by
  intro rs r e sg G H ts tv fp Q hR h1 h2
  unfold lcD at e
  rcases bd_some e with ⟨ds, rs1, q, e⟩ | ⟨x, rs1, q, e⟩
  · refine hi rs _ q sg G H ts tv fp _ hR (fun ds' rs' er J G1 H1 f1 st1 R1 ok => ?_) (fun x rs' er => by cases er)
    cases er
    split at e
    case h_2 => cases e
    rename_i p ep
    cases e
    intro D hD
    obtain ⟨f2, R2, st2⟩ := R.newL (as := []) (va := []) (p := D) R1 rfl hD
    obtain ⟨f3, R3, st3⟩ := R2.wipes (own := own)
    have st23 := st2.trans st3
    refine ⟨fun i m H' => m = ds.length - i ∧ i ≤ ds.length ∧ ∃ rs' acc G' fp', lcL (tgA [] t) own cd el (ds.drop i) rs' acc = some p ∧ Step X.K G1 H1 f1 G' H' fp' ∧ R X.K X.mg G' H' (.lst true acc :: ts) (.ref D :: tv) rs' (wipe sg own) fp',
      ⟨ds.length, by simp, Nat.zero_le _, _, [], _, f3, by simpa using ep, st23, R3⟩, ?_⟩
    rintro i m H2 ⟨rfl, hil, rs2, acc, G2, f2, e2, st2, R2⟩
    have gh : ∀ a o, G1 a = some o → H2 a = some o := fun a o h => (R2.sub a o (st2.grow a o h)).1
    by_cases hlt : i < ds.length
    · obtain ⟨d, hd⟩ : ∃ d, ds[i]? = some d := ⟨_, List.getElem?_eq_getElem hlt⟩
      rw [drop_cons hd] at e2
      refine .inr ⟨ok.go i H2 hlt gh st2.tups, fun H' => ∃ rs' acc G' fp', lcL (tgA [] t) own cd el (ds.drop (i + 1)) rs' acc = some p ∧ Step X.K G1 H1 f1 G' H' fp' ∧ R X.K X.mg G' H' (.lst true acc :: ts) (.ref D :: tv) rs' (wipe sg own) fp',
        fun H' h => ⟨ds.length - (i + 1), by omega, rfl, hlt, h⟩, fun x H3 hy => ?_⟩
      obtain ⟨hx, hrep⟩ := ok.yld i H2 x H3 d hd gh st2.tups hy
      have st3 : Step X.K G2 H2 f2 G2 H3 f2 := .ext hx
      have R3 := R2.mono st3.tups (fun a o _ h => hx a o h) fun a o h => hx a o (R2.sub a o h).1
      have rp : Rep X.K X.mg G2 H3 d x (fun _ => False) := rep_mono st2.grow (fun _ _ h => h) d (fun _ _ z => z.elim) hrep
      have R4 := R3.pushE rp
      simp only [lcL] at e2
      split at e2
      case h_2 => cases e2
      rename_i rs3 q3
      refine satG_of (io := others own rs2.length) X.K (X := X) rfl d rs2 rs3 (tgA_io ht q3) x (wipe sg own) G2 H3 _ _ f2 _ R4 fun sg4 H4 f4 st4 kp4 R5 => ?_
      have we : wipe sg4 own = wipe sg own := by
        have hl : sg4.length = (wipe sg own).length := by
          have l1 := R5.len
          have l2 := R4.len
          have l3 : rs3.length = rs2.length := by
            have : ∀ {is : List Nat} {ds rs rs' : List Pv.D}, setAll [] is ds rs = some rs' → rs'.length = rs.length := by
              intro is
              induction is with
              | nil => intro ds rs rs' e; cases ds <;> first | (cases e; rfl) | cases e
              | cons i is ih =>
                intro ds rs rs' e
                cases ds with
                | nil => cases e
                | cons d ds =>
                  simp only [setAll] at e
                  split at e
                  · rw [ih e, List.length_set]
                  · cases e
            cases t with
            | nm i =>
              simp only [tgA] at q3
              split at q3
              · cases q3; rw [List.length_set]
              · cases q3
            | tp is =>
              cases d <;> first | (cases q3; done) | skip
              exact this q3
          omega
        have e1 : wipe sg4 own = wipe (wipe sg own) own := wipe_eq hl fun k hk ho => kp4 k (by
          unfold others
          rw [List.mem_filter]
          have l2 := R4.len
          exact ⟨List.mem_range.mpr (by omega), by simpa [List.contains_eq_mem] using ho⟩)
        rw [e1]
        refine wipe_eq (wipe_length _ _) fun k hk ho => wipe_out ho
      refine ⟨we, ?_⟩
      split at e2
      · rename_i rs5 q5
        split at e2
        case h_2 => cases e2
        rename_i y rs6 q6
        split at e2
        case isFalse => cases e2
        rename_i hlen
        refine ⟨rs3, true, rs5, _, _, _, _, q5, R5, fun G5 H5 f5 st5 R6 => ?_⟩
        simp only [if_true]
        refine ⟨rs5, y, rs6, _, _, _, _, q6, R6, fun yv G6 H6 f6 st6 R7 => ?_⟩
        obtain ⟨pp, vs, ev, hp, hvl, f7, R8, st7⟩ := R7.appL
        cases ev
        obtain ⟨f8, R9, st8⟩ := R8.wipes (own := own)
        rw [we] at R9
        refine ⟨vs, hp, by rw [hvl]; exact Nat.lt_of_lt_of_le hlen (by decide), _, _, _, f8, e2, ?_, R9⟩
        exact (((((st2.trans st3).trans st4).trans st5).trans st6).trans st7).trans st8
      · rename_i rs5 q5
        refine ⟨rs3, false, rs5, _, _, _, _, q5, R5, fun G5 H5 f5 st5 R6 => ?_⟩
        simp only [Bool.false_eq_true, if_false]
        obtain ⟨f8, R9, st8⟩ := R6.wipes (own := own)
        rw [we] at R9
        exact ⟨_, _, _, f8, e2, (((st2.trans st3).trans st4).trans st5).trans st8, R9⟩
      · cases e2
    · have ei' : i = ds.length := by omega
      subst ei'
      rw [List.drop_length] at e2
      cases e2
      obtain ⟨f9, R9, st9⟩ := R2.unwipes
      exact .inl ⟨ok.stop _ H2 (Nat.le_refl _) gh st2.tups, h1 _ _ rfl _ _ _ f9 ((st1.trans st2).trans st9) R9⟩
  · subst e
    exact hi rs _ q sg G H ts tv fp _ hR (fun d' rs' er => by cases er) (fun x' rs' er => by cases er; exact h2 _ _ rfl)
end
end Pv

set_option maxHeartbeats 2000000
namespace Pv
open PySem PySem.Spec PyProof.Rows L2
/-! ### instances -/
theorem fIx_lookup {f : Str} : ∀ {fs : List (Str × V)} {j : Nat}, fIx f (fs.map (·.1)) = some j → ∃ v, fs.lookup f = some v ∧ (fs.map (·.2))[j]? = some v
  | [], j, h => by cases h
  | (g, x) :: r, j, h => by
    simp only [List.map_cons, fIx] at h
    split at h
    · rename_i e
      cases h
      subst e
      exact ⟨x, by simp [List.lookup], rfl⟩
    · rename_i e
      obtain ⟨i, hi, rfl⟩ := Option.map_eq_some_iff.mp h
      obtain ⟨v, h1, h2⟩ := fIx_lookup hi
      have eb : (f == g) = false := by simpa using fun z => e z.symm
      exact ⟨v, by simp [List.lookup, eb, h1], by simpa using h2⟩
theorem fIx_none {f : Str} : ∀ {fs : List (Str × V)}, fIx f (fs.map (·.1)) = none → fs.lookup f = none
  | [], _ => rfl
  | (g, x) :: r, h => by
    simp only [List.map_cons, fIx] at h
    split at h
    · cases h
    · rename_i e
      have eb : (f == g) = false := by simpa using fun z => e z.symm
      simp [List.lookup, eb, fIx_none (Option.map_eq_none_iff.mp h)]
section
variable {K : Fr} {mg : Str → Option Value} {G G' H H' : Hp} {fp f1 f2 : FP} {ts : List D} {tv : List V} {rs : List D} {sg : L2.St}
/-- an instance, as it stands -/
theorem rep_obj {o : Bool} {C : Str} {ns : List Str} {xs : List D} {v : V} (h : Rep K mg G H (.obj o C ns xs) v fp) (hg : ∀ a o, G a = some o → H a = some o) :
    ∃ a Ca dx fs f', v = .ref a ∧ mg C = some (.ref Ca) ∧ H a = some (.ins Ca dx fs) ∧ fs.map (·.1) = ns ∧ Reps K mg G H xs (fs.map (·.2)) f' ∧ ∀ b, f' b → fp b := by
  cases o with
  | true =>
    simp only [Rep] at h
    obtain ⟨a, Ca, dx, fs, f', e, hm, hH, hn, hr, _, hf⟩ := h
    exact ⟨a, Ca, dx, fs, f', e, hm, hH, hn, hr, fun b z => (hf b).2 (.inr z)⟩
  | false =>
    simp only [Rep] at h
    obtain ⟨a, Ca, dx, fs, e, hm, hH, hn, hr, _⟩ := h
    exact ⟨a, Ca, dx, fs, fp, e, hm, hg _ _ hH, hn, hr, fun b z => z⟩
/-- slots behind the others -/
theorem repsO_app : ∀ {ds : List D} {vs : List (Option V)} {fs f1 : FP} {d : D} {ov : Option V}, RepsO K mg G H ds vs fs → RepO K mg G H d ov f1 → (∀ a, f1 a → ¬ fs a) → RepsO K mg G H (ds ++ [d]) (vs ++ [ov]) (fun a => fs a ∨ f1 a)
  | [], [], fs, f1, d, ov, h, hd, dj => ⟨f1, fun _ => False, hd, fun _ z => z, fun _ _ z => z, fun a => ⟨fun z => .inl (z.resolve_left (h a)), fun z => z.elim .inr fun z => z.elim⟩⟩
  | x :: ds, w :: vs, fs, f1, d, ov, h, hd, dj => by
    obtain ⟨g1, g2, k1, k2, k3, k4⟩ := h
    refine ⟨g1, fun a => g2 a ∨ f1 a, k1, repsO_app k2 hd fun a ha hb => dj a ha ((k4 a).2 (.inr hb)), fun a ha hb => ?_, fun a => ?_⟩
    · rcases hb with hb | hb
      · exact k3 a ha hb
      · exact dj a hb ((k4 a).2 (.inl ha))
    · show (fs a ∨ f1 a) ↔ (g1 a ∨ (g2 a ∨ f1 a))
      rw [k4 a, or_assoc]
  | [], _ :: _, _, _, _, _, h, _, _ => h.elim
  | _ :: _, [], _, _, _, _, h, _, _ => h.elim
theorem repsO_unapp : ∀ {ds : List D} {vs : List (Option V)} {fs : FP} {ov : Option V}, ds.length = vs.length + 1 → RepsO K mg G H ds (vs ++ [ov]) fs → ∃ fs', RepsO K mg G H (ds.take vs.length) vs fs' ∧ ∀ a, fs' a → fs a
  | [d], [], fs, ov, _, h => ⟨fun _ => False, fun _ z => z, fun _ z => z.elim⟩
  | d :: ds, v :: vs, fs, ov, hl, h => by
    obtain ⟨g1, g2, k1, k2, k3, k4⟩ := h
    obtain ⟨fs', q1, q2⟩ := repsO_unapp (by simpa using hl) k2
    refine ⟨fun a => g1 a ∨ fs' a, ⟨g1, fs', k1, q1, fun a ha hb => k3 a ha (q2 a hb), fun _ => Iff.rfl⟩, fun a z => ?_⟩
    rcases z with z | z
    · exact (k4 a).2 (.inl z)
    · exact (k4 a).2 (.inr (q2 a z))
  | [], _, _, _, hl, _ => by simp at hl
  | _ :: _ :: _, [], _, _, hl, _ => by simp at hl
theorem R.ext {d : D} {v : V} (r : R K mg G H (d :: ts) (v :: tv) rs sg fp) : ∃ fp', R K mg G H ts tv (rs ++ [d]) (sg ++ [some v]) fp' ∧ Step K G H fp G H fp' := by
  obtain ⟨⟨ft, fs, h1, h2, h3, h4⟩, sub⟩ := r
  simp only [Reps] at h1
  obtain ⟨g1, g2, k1, k2, k3, k4⟩ := h1
  have q := repsO_app (ov := some v) h2 k1 fun a ha hb => h3 a ((k4 a).2 (.inl ha)) hb
  have le : ∀ a, (g2 a ∨ (fs a ∨ g1 a)) → fp a := fun a z => by
    rcases z with z | z | z
    · exact (h4 a).2 (.inl ((k4 a).2 (.inr z)))
    · exact (h4 a).2 (.inr z)
    · exact (h4 a).2 (.inl ((k4 a).2 (.inl z)))
  refine ⟨_, ⟨⟨g2, _, k2, q, fun a ha hb => ?_, fun _ => Iff.rfl⟩, fun a o e => ⟨(sub a o e).1, fun z => (sub a o e).2 (le a z)⟩⟩, .less le⟩
  rcases hb with hb | hb
  · exact h3 a ((k4 a).2 (.inr ha)) hb
  · exact k3 a hb ha
theorem R.unext {ov : Option V} (r : R K mg G H ts tv rs (sg ++ [ov]) fp) : ∃ fp', R K mg G H ts tv (rs.take sg.length) sg fp' ∧ Step K G H fp G H fp' := by
  have hl := r.len
  obtain ⟨⟨ft, fs, h1, h2, h3, h4⟩, sub⟩ := r
  obtain ⟨fs', q1, q2⟩ := repsO_unapp (by simpa using hl) h2
  have le : ∀ a, (ft a ∨ fs' a) → fp a := fun a z => (h4 a).2 (z.imp id (q2 a))
  exact ⟨_, ⟨⟨ft, fs', h1, q1, fun a ha hb => h3 a ha (q2 a hb), fun _ => Iff.rfl⟩, fun a o e => ⟨(sub a o e).1, fun z => (sub a o e).2 (le a z)⟩⟩, .less le⟩
/-- a new instance -/
theorem R.newO {C : Str} {Ca p dx : Addr} (r : R K mg G H ts tv rs sg fp) (hm : mg C = some (.ref Ca)) (n : H p = none) (nd : H dx = none) (hne : dx ≠ p) :
    ∃ fp', R K mg G (upd (upd H dx (.own p)) p (.ins Ca dx [])) (.obj true C [] [] :: ts) (.ref p :: tv) rs sg fp' ∧ Step K G H fp G (upd (upd H dx (.own p)) p (.ins Ca dx [])) fp' := by
  have hg : ∀ a o, H a = some o → upd (upd H dx (.own p)) p (.ins Ca dx []) a = some o := fun a o h => by
    rw [upd_ne (ne_of_none h n), upd_ne (ne_of_none h nd)]; exact h
  have st : Step K G H fp G (upd (upd H dx (.own p)) p (.ins Ca dx [])) fp := .ext hg
  have r1 := r.mono st.tups (fun a o _ h => hg a o h) fun a o h => hg a o (r.sub a o h).1
  have k : Rep K mg G (upd (upd H dx (.own p)) p (.ins Ca dx [])) (.obj true C [] []) (.ref p) (fun a => a = p) := by
    simp only [Rep]
    exact ⟨p, Ca, dx, [], fun _ => False, rfl, hm, upd_same, rfl, by simp [Reps], fun z => z, fun b => by simp⟩
  have np : ¬ fp p := fun z => by rcases r.there p z with ⟨_, q⟩ | ⟨_, _, _, q⟩ <;> (rw [n] at q; cases q)
  refine ⟨_, r1.push k (fun a ha hb => np (ha ▸ hb)) (fun a o hgo ha => ?_), ⟨fun a o h _ => hg a o h, st.tups, fun a z => ?_, fun _ _ h => h, fun a o h => .inl h⟩⟩
  · subst ha
    have := (r.sub _ _ hgo).1
    rw [n] at this; cases this
  · rcases z with z | z
    · rw [z]; exact .inl n
    · exact .inr z
end
section
variable {X : Cx} {W : WX} {c : Ce} {km : Nat} {io : List Nat}
theorem fldD_inv {C f : Str} {d c : D} (h : fldD C f d = some c) : ∃ o ns xs j, d = .obj o C ns xs ∧ fIx f ns = some j ∧ xs[j]? = some c := by
  cases d <;> first | (cases h; done) | skip
  rename_i o C' ns xs
  simp only [fldD] at h
  split at h
  · rename_i e
    subst e
    obtain ⟨j, hj, h⟩ := ob_some h
    exact ⟨o, ns, xs, j, rfl, hj, h⟩
  · cases h
theorem isUn_eq {d : D} (h : isUn d = true) : d = .un := by cases d <;> first | rfl | cases h
/-- a field's value, looked at in a slot -/
theorem fld_at2 {s : Nat} {C f : Str} {rs : List D} {d c : D} {sg : L2.St} {G H : Hp} {ts : List D} {tv : List V} {fp : FP} (hC : ClsHas (gvOf X) C [f]) (hR : R X.K X.mg G H ts tv rs sg fp) (q : rs[s]? = some d) (e : fldD C f d = some c) :
    ∃ a Ca dx fs v, sg[s]? = some (some (.ref a)) ∧ H a = some (.ins Ca dx fs) ∧ Cls X.K Ca ∧ NoAttr X.K Ca f ∧ fs.lookup f = some v ∧ Vw X.K X.mg H (fz c) v := by
  obtain ⟨o, ns, xs, j, rfl, hj, hx⟩ := fldD_inv e
  obtain ⟨v0, hv⟩ := hR.val q (by intro z; cases z)
  obtain ⟨Ca', hm', hc, hn⟩ := hC.ex
  have vw := hR.view q hv
  simp only [Pv.fz] at vw
  obtain ⟨a, Ca, dx, fs, f', rfl, hm, hH, hns, hr, _⟩ := rep_obj vw fun _ _ h => h
  have hm2 : X.mg C = some (.ref Ca') := hm'
  rw [hm] at hm2
  cases hm2
  rw [← hns] at hj
  obtain ⟨w, h1, h2⟩ := fIx_lookup hj
  have hx' : (fzs xs)[j]? = some (fz c) := by rw [fzs_map, List.getElem?_map, hx]; rfl
  obtain ⟨w', g1, q1, q2, _⟩ := reps_item hr hx'
  rw [h2] at q1
  cases q1
  exact ⟨a, _, dx, fs, w, hv, hH, hc, hn f (by simp), h1, rep_iff q2 fun b => ⟨fun z => rep_emp _ (isFz_fz c) q2 b z, fun z => z.elim⟩⟩
theorem satP_fld {s : Nat} {C f : Str} (hC : ClsHas (gvOf X) C [f]) : SatP X (tFld X.K (tVar s) f) (evP (.fld s C f)) := by
  intro rs d e sg G H ts tv fp Q hR h
  simp only [evP] at e
  obtain ⟨d0, q, e⟩ := ob_some e
  obtain ⟨c, ec, e⟩ := ob_some e
  split at e
  · cases e
  cases e
  obtain ⟨a, Ca, dx, fs, v, hv, hH, hc, hn, hl, vw⟩ := fld_at2 hC hR q ec
  exact ⟨_, hv, a, Ca, dx, fs, v, rfl, hH, hc, hn, hl, h v vw⟩
theorem sat_fld {s : Nat} {C f : Str} (hC : ClsHas (gvOf X) C [f]) (mv : Bool) : Sat X W (tFld X.K (tVar s) f) (evE (.fld s C f) mv) := by
  intro rs r e sg G H ts tv fp Q hR h1 h2
  simp only [evE] at e
  obtain ⟨d0, q, e⟩ := ob_some e
  obtain ⟨c, ec, e⟩ := ob_some e
  split at e
  case isFalse => cases e
  rename_i hz
  cases e
  obtain ⟨hz, hu⟩ := ands hz
  obtain ⟨o, ns, xs, j, rfl, hj, hx⟩ := fldD_inv ec
  obtain ⟨v0, hv⟩ := hR.val q (by intro z; cases z)
  obtain ⟨Ca', hm', hc, hn⟩ := hC.ex
  obtain ⟨f1, f2, k1, r2, dj, ef⟩ := (hR.take q hv).top
  obtain ⟨a, Ca, dx, fs, f', rfl, hm, hH, hns, hr, _⟩ := rep_obj k1 fun a o h => (hR.sub a o h).1
  have hm2 : X.mg C = some (.ref Ca') := hm'
  rw [hm] at hm2
  cases hm2
  rw [← hns] at hj
  obtain ⟨w, l1, l2⟩ := fIx_lookup hj
  obtain ⟨w', g1, q1, q2, _⟩ := reps_item hr hx
  rw [l2] at q1
  cases q1
  have q3 : Rep X.K X.mg G H c w (fun _ => False) := rep_iff q2 fun b => ⟨fun z => rep_emp _ hz q2 b z, fun z => z.elim⟩
  exact ⟨_, hv, a, _, dx, fs, w, rfl, hH, hc, hn f (by simp), l1, h1 _ _ rfl w G H fp .refl (hR.pushE q3)⟩
/-! ### methods -/
def tMethS (C : Addr) (m : Str) (sp : Sp) (E : L2.St → XK) (ta : TE) (t : TA) : TE := fun σ H Q => ta σ H fun x H1 => ∃ a dx fs, x = .ref a ∧ H1 a = some (.ins C dx fs) ∧ fs.lookup m = none ∧ t σ H1 fun vs H2 => sp (x :: vs) H2 Q (E σ)
theorem form_ok {es : List Expr} {env : Env} {pos : Pos} (h : (backTo pos (starEach es env)).any (·.1) = false) (hl : es.length < 20) : methodCallForm (es.length + ([] : List Keyword).length) (backTo pos (starEach es env)) (backToKw pos (keywordEach [] env)) = true := by
  have h1 : (backTo pos (starEach es env)).all (fun x => !x.1) = true := by
    rw [List.all_eq_not_any_not]
    simp only [Bool.not_not]
    rw [h]; rfl
  have h2 : methodCallForm (es.length + ([] : List Keyword).length) (backTo pos (starEach es env)) (backToKw pos (keywordEach [] env)) = (((backTo pos (starEach es env)).all (fun x => !x.1) && true) && decide (es.length + 0 + 0 < 30)) := rfl
  rw [h2, h1]
  simp
  omega
theorem pe_methE {CX : CXT} {k : Nat} {C f : Addr} {fd : FuncData} {ps : List Str} {sp : Sp} {E : L2.St → XK} {m : Str} {pos apos : Pos} {e : Expr} {x : Str} {p : Pos} {es : List Expr} {ta : TE} {t : TA} (he : PE X (.Name x p) ta) (c : Cls X.K C) (hm : Meth X.K C m f) (F : FnOk X.prog X.w X.K X.mg X.base CX k f fd ps sp) (hr : Room k X.A) (hb : Binds X.K fd ps []) (hx : ∀ σ, PassesAt CX X σ (E σ)) (ha : PA X (e :: es) t)
    (hst : starEach (e :: es) X.env = (false, eval e X.env) :: starEach es X.env) (hpl : (backTo pos (starEach es X.env)).any (·.1) = false) (hpl2 : (backTo pos (starEach (e :: es) X.env)).any (·.1) = false) (hl : (e :: es).length < 20) (hline : (apos.endLine == pos.line) = true) :
    PE X (.Call (.Attribute (.Name x p) m apos) (e :: es) [] pos) (tMethS C m sp E ta t) := by
  refine ⟨fun pins s σ H Q I h => ?_⟩
  rw [arm_eval_Call]
  have hform := form_ok hpl2 hl
  have hpos : methodCallPos true (.Name x p) X.env apos pos = pure pos := by unfold methodCallPos; simp [hline]
  refine wpAny_bind (thn (he.run pins s σ H _ I h) fun u s1 ⟨y, H1, I1, rx, a, dx, fs, ex, ea, l, q⟩ => ?_)
  subst ex
  obtain rfl : u = Value.ref a := rx
  refine wpAny_bind (wpAny_standAt ?_)
  unfold methodCall
  rw [hform]
  refine wpAny_bind (wpAny_holding (getmeth_ok I1 ea c hm l ?_))
  refine wpAny_bind (wpAny_of_eq hpos ?_)
  refine PySem.W.callWith_K (first := [.ref a]) (h₀ := X.base) I.ok.mod.kin hm.kp (thn (ha.run pos pins s1 σ H1 _ I1 q) fun us s2 ⟨vs, H2, I2, r, q2⟩ => ⟨I2.kIn, ?_⟩) hst hpl
  exact run_fnS (us := .ref a :: us) (vs := .ref a :: vs) F hr hb (hx σ) I2 (.cons rfl r) q2
theorem pe_methE0 {CX : CXT} {k : Nat} {C f : Addr} {fd : FuncData} {ps : List Str} {sp : Sp} {E : L2.St → XK} {m : Str} {pos apos : Pos} {x : Str} {p : Pos} {ta : TE} (he : PE X (.Name x p) ta) (c : Cls X.K C) (hm : Meth X.K C m f) (F : FnOk X.prog X.w X.K X.mg X.base CX k f fd ps sp) (hr : Room k X.A) (hb : Binds X.K fd ps []) (hx : ∀ σ, PassesAt CX X σ (E σ)) (hline : (apos.endLine == pos.line) = true) :
    PE X (.Call (.Attribute (.Name x p) m apos) [] [] pos) (tMethS C m sp E ta (runs [])) := by
  refine ⟨fun pins s σ H Q I h => ?_⟩
  rw [arm_eval_Call]
  have hform : methodCallForm (([] : List Expr).length + ([] : List Keyword).length) (backTo pos (starEach [] X.env)) (backToKw pos (keywordEach [] X.env)) = true := rfl
  have hpos : methodCallPos true (.Name x p) X.env apos pos = pure pos := by unfold methodCallPos; simp [hline]
  refine wpAny_bind (thn (he.run pins s σ H _ I h) fun u s1 ⟨y, H1, I1, rx, a, dx, fs, ex, ea, l, q⟩ => ?_)
  subst ex
  obtain rfl : u = Value.ref a := rx
  refine wpAny_bind (wpAny_standAt ?_)
  unfold methodCall
  rw [hform]
  refine wpAny_bind (wpAny_holding (getmeth_ok I1 ea c hm l ?_))
  refine wpAny_bind (wpAny_of_eq hpos ?_)
  exact PySem.W.callWith_K0 (first := [.ref a]) I1.kIn hm.kp (run_fnS (us := [.ref a]) (vs := [.ref a]) F hr hb (hx σ) I1 (.cons rfl .nil) q)
theorem sat_meth {s : Nat} {C m : Str} {Ca : Addr} {f : Fn} {tes : List TE} {as : Es} (hm : X.mg C = some (.ref Ca)) (h : SatA X W tes (evA as)) :
    Sat X W (tMethS Ca m (spOf X.K X.mg f) (WE W) (tVar s) (runs tes)) (fun rs => if objOk C m rs[s]? then Res.bd (evA as rs) fun as rs1 => callD f (.loc s :: as) rs1 else none) := by
  intro rs r e sg G H ts tv fp Q hR h1 h2
  dsimp only at e
  split at e
  case isFalse => cases e
  rename_i ho
  obtain ⟨d0, q0⟩ : ∃ d0, rs[s]? = some d0 := by
    cases q : rs[s]? with
    | none => rw [q] at ho; cases ho
    | some d0 => exact ⟨d0, rfl⟩
  rw [q0] at ho
  cases d0 <;> first | (cases ho; done) | skip
  rename_i o C' ns xs
  obtain ⟨o1, o2⟩ := ands ho
  have o1 := of_decide_eq_true o1
  subst o1
  obtain ⟨v0, hv⟩ := hR.val q0 (by intro z; cases z)
  have vw := hR.view q0 hv
  simp only [Pv.fz] at vw
  obtain ⟨a, Ca', dx, fs, f', rfl, hm', hH, hns, hr, _⟩ := rep_obj vw fun _ _ h => h
  have hm2 : X.mg C' = some (.ref Ca') := hm'
  rw [hm] at hm2
  cases hm2
  rw [← hns] at o2
  have hl : fs.lookup m = none := fIx_none (by simpa using o2)
  refine ⟨_, hv, a, dx, fs, rfl, hH, hl, ?_⟩
  rcases bd_some e with ⟨as', rs1, q, e⟩ | ⟨x, rs1, q, e⟩
  · refine h rs _ q sg G H ts tv fp _ hR (fun as2 rs' er vs va G' H' f' st r' ar => ?_) (fun x rs' er => by cases er)
    cases er
    exact call_sp (as := .loc s :: as') r' (.loc hv ar) e (fun d rs' er v G2 H2 f2 st2 r2 => h1 d rs' er v G2 H2 f2 (st.trans st2) r2) fun x rs' er cls da G2 H2 f2 st2 r2 xr => h2 x rs' er cls da G2 H2 f2 (st.trans st2) r2 xr
  · subst e
    exact h rs _ q sg G H ts tv fp _ hR (fun d' rs' er => by cases er) (fun x' rs' er => by cases er; exact h2 _ _ rfl)
/-! ### a new instance -/
def tMakeS (C : Addr) (sp : Sp) (E : L2.St → XK) (t : TA) : TE := fun σ H Q => t σ H fun vs H1 => ∀ x dx, H1 x = none → H1 dx = none → dx ≠ x →
  sp (.ref x :: vs) (upd (upd H1 dx (.own x)) x (.ins C dx [])) (fun v H2 => v = .non ∧ Q (.ref x) H2) (E σ)
theorem run_makeE {CX : CXT} {k : Nat} {C f : Addr} {fd : FuncData} {ps : List Str} {sp : Sp} {E : L2.St → XK} {pins : List (Addr × Obj)} {σ : L2.St} {H : Hp} {s : Shared} {Q : VK} {us : List Value} {vs : List V} (M : Mk X.K C f) (F : FnOk X.prog X.w X.K X.mg X.base CX k f fd ps sp) (hr : Room (k + 1) X.A) (hb : Binds X.K fd ps [])
    (hx : PassesAt CX X σ (E σ)) (I : Inv X pins σ H s) (r : Vals vs us)
    (h : ∀ x dx, H x = none → H dx = none → dx ≠ x → sp (.ref x :: vs) (upd (upd H dx (.own x)) x (.ins C dx [])) (fun v H2 => v = .non ∧ Q (.ref x) H2) (E σ)) :
    wpAny (model X.prog X.w) X.A (call (.ref C) us) (EP X pins σ Q) X.xe s := by
  have hq := h (s.heap.objs.size + 1) s.heap.objs.size (I.hok.fresh (Nat.le_succ _)) (I.hok.fresh (Nat.le_refl _)) (Nat.ne_of_lt (Nat.lt_succ_self _))
  have I2 := Inv.made (C := C) I
  have r2 : Vals (V.ref (s.heap.objs.size + 1) :: vs) (Value.ref (s.heap.objs.size + 1) :: us) := .cons rfl r
  have hl : (Value.ref (s.heap.objs.size + 1) :: us).length = ps.length := by
    have e := r2.length
    rw [F.len _ _ _ _ hq] at e
    exact e.symm
  have hb' := hb { s with heap := (s.heap.push PySem.W.emptyDict).push (PySem.W.instObj C s.heap.objs.size) } (Value.ref (s.heap.objs.size + 1) :: us) I2.kIn (by simpa using hl)
  rw [List.append_nil] at hb'
  refine wpAny_call (make_map (f := f) I.kIn M.makes M.init (beq_iff_eq.mp M.fn) (codeAny_mono (F.run _ X.stack _ _ ⟨Value.ref (s.heap.objs.size + 1) :: us, []⟩ (Value.ref (s.heap.objs.size + 1) :: us) _ _ (E σ) (hr.make C us [])
    (I2.env0.make C us []) hb' r2 hq) fun r s' hq' => ?_))
  cases r with
  | error e => exact hx pins _ _ e s' I2 hq'
  | ok fl =>
    cases fl with
    | ret u =>
      obtain ⟨v, H', I3, rv, ev, q3⟩ := I2.after hq'
      subst ev
      exact ⟨rv, ⟨V.ref (s.heap.objs.size + 1), H', I3, rfl, q3⟩⟩
    | next => exact False.elim hq'
    | brk => exact False.elim hq'
    | cont => exact False.elim hq'
theorem pe_makeE {CX : CXT} {k : Nat} {C f : Addr} {fd : FuncData} {ps : List Str} {sp : Sp} {E : L2.St → XK} {x : Str} {p pos : Pos} {e : Expr} {es : List Expr} {t : TA} (M : Mk X.K C f) (F : FnOk X.prog X.w X.K X.mg X.base CX k f fd ps sp) (hr : Room (k + 1) X.A) (hg : Gl X x) (hm : X.mg x = some (.ref C)) (hb : Binds X.K fd ps []) (hx : ∀ σ, PassesAt CX X σ (E σ))
    (ha : PA X (e :: es) t) (hdb : (x == ("__debug__" : Str)) = false := by decide) (he : starEach (e :: es) X.env = (false, eval e X.env) :: starEach es X.env := by rfl) (hpl : (backTo pos (starEach es X.env)).any (·.1) = false := by rfl) :
    PE X (.Call (.Name x p) (e :: es) [] pos) (tMakeS C sp E t) := by
  refine ⟨fun pins s σ H Q I h => ?_⟩
  refine wpAny_Call_Name_kw (ld_glob I hg hm ?_ hdb)
  refine PySem.W.callWith_K (h₀ := X.base) I.ok.mod.kin M.kp (thn (ha.run pos pins s σ H _ I h) fun us s1 ⟨vs, H1, I1, r, q⟩ => ⟨I1.kIn, ?_⟩) he hpl
  exact run_makeE M F hr hb (hx σ) I1 r q
theorem AR.ext {sg : L2.St} {ov : Option V} : ∀ {as : List Arg} {vs va : List V}, AR sg as vs va → AR (sg ++ [ov]) as vs va
  | _, _, _, .nil => .nil
  | _, _, _, .tmp h => .tmp h.ext
  | _, _, _, .loc e h => .loc (by rw [List.getElem?_append_left (List.getElem?_eq_some_iff.mp e).1]; exact e) h.ext
theorem sat_make {C : Str} {Ca : Addr} {f : Fn} {tes : List TE} {as : Es} (hm : X.mg C = some (.ref Ca)) (h : SatA X W tes (evA as)) :
    Sat X W (tMakeS Ca (spOf X.K X.mg f) (WE W) (runs tes)) (fun rs => Res.bd (evA as rs) fun as rs1 => makeD C f as rs1) := by
  intro rs r e sg G H ts tv fp Q hR h1 h2
  rcases bd_some e with ⟨as', rs1, q, e⟩ | ⟨x, rs1, q, e⟩
  · refine h rs _ q sg G H ts tv fp _ hR (fun as2 rs' er vs va G' H' f' st r' ar => ?_) (fun x rs' er => by cases er)
    cases er
    intro p dx hp hdx hne
    obtain ⟨f2, r2, st2⟩ := r'.newO hm hp hdx hne
    obtain ⟨f3, r3, st3⟩ := r2.ext
    have hl : rs1.length = sg.length := r'.len
    have hs : (sg ++ [some (V.ref p)])[rs1.length]? = some (some (.ref p)) := by rw [hl]; simp
    unfold makeD at e
    cases qc : callD f (.loc rs1.length :: as') (rs1 ++ [.obj true C [] []]) with
    | none => rw [qc] at e; cases e
    | some r0 =>
      rw [qc] at e
      refine call_sp (as := .loc rs1.length :: as') (vs := .ref p :: vs) r3 (.loc hs ar.ext) qc (fun d rs' er v G2 H2 f4 st4 r4 => ?_) (fun x rs' er cls da G2 H2 f4 st4 r4 xr => ?_)
      · subst er
        cases d <;> first | (cases e; done) | skip
        cases e
        obtain ⟨_, k5, r5⟩ : ∃ f5, (v = .non) ∧ R X.K X.mg G2 H2 ts tv rs' (sg ++ [some (.ref p)]) f4 := by
          obtain ⟨g1, g2, a1, a2, a3, a4⟩ := r4.top
          simp only [Rep] at a1
          exact ⟨g1, a1.1, a2.iff fun a => ⟨fun z => (a4 a).2 (.inr z), fun z => ((a4 a).1 z).resolve_left (a1.2 a)⟩⟩
        refine ⟨k5, ?_⟩
        have hl' : rs'.length = sg.length + 1 := by rw [r5.len]; simp
        have hx : rs'[rs1.length]? = some (rs'.getD rs1.length .un) := by
          rw [List.getD_eq_getElem?_getD, List.getElem?_eq_getElem (by omega)]; rfl
        have r6 := r5.take hx hs
        obtain ⟨f7, r7, st7⟩ := r6.unext
        have et : (rs'.set rs1.length .un).take sg.length = rs'.take rs1.length := by
          rw [hl, List.take_set, List.set_eq_of_length_le (by rw [List.length_take]; omega)]
        rw [et] at r7
        exact h1 _ _ rfl _ G2 H2 f7 ((((st.trans st2).trans st3).trans st4).trans st7) r7
      · subst er
        cases e
        obtain ⟨f7, r7, st7⟩ := r4.unext
        rw [← hl] at r7
        exact h2 _ _ rfl cls da G2 H2 f7 ((((st.trans st2).trans st3).trans st4).trans st7) r7 xr
  · subst e
    exact h rs _ q sg G H ts tv fp _ hR (fun d' rs' er => by cases er) (fun x' rs' er => by cases er; exact h2 _ _ rfl)
/-! ### tuple(x) -/
def rTupc (K : Fr) : List V → Hp → VK → Prop := fun xs H Q => ∃ p ys, xs = [.ref p] ∧ ((SqL K H p ys ∧ ∀ l, H l = none → Q (.ref l) (upd H l (.tup ys))) ∨ (SqT K H p ys ∧ Q (.ref p) H))
theorem lst_rep {d : D} {v : V} {xs : List D} {G H : Hp} {fp : FP} (h : Rep X.K X.mg G H d v fp) (hg : ∀ a o, G a = some o → H a = some o) (e : lstItems d = some xs) : ∃ a vs f, v = .ref a ∧ SqL X.K H a vs ∧ Reps X.K X.mg G H xs vs f ∧ ∀ a, f a → fp a := by
  cases d <;> first | (cases e; done) | skip
  rename_i o ys
  cases e
  cases o with
  | true =>
    simp only [Rep] at h
    obtain ⟨a, vs, f, e1, h1, h2, h3, h4⟩ := h
    exact ⟨a, vs, f, e1, .inl (.inl h1), h2, fun b z => (h4 b).2 (.inr z)⟩
  | false =>
    simp only [Rep] at h
    obtain ⟨a, vs, e1, h1, h2, h3⟩ := h
    refine ⟨a, vs, fp, e1, ?_, h2, fun b z => z⟩
    rcases h1 with (h1 | ⟨o, h1⟩) | h1
    · exact .inl (.inl (hg _ _ h1))
    · exact .inl (.inr ⟨o, hg _ _ h1⟩)
    · exact .inr h1
theorem R.newT' {K : Fr} {mg : Str → Option Value} {G H : Hp} {fp : FP} {ts : List D} {tv : List V} {rs : List D} {sg : L2.St} {as : List D} {va : List V} {p : Addr} {f1 : FP} (r : R K mg G H ts tv rs sg fp) (h : Reps K mg G H as va f1) (dj : ∀ a, f1 a → ¬ fp a) (hg : ∀ a o, G a = some o → ¬ f1 a) (n : H p = none) :
    ∃ fp' : FP, R K mg G (upd H p (.tup va)) (.tup as :: ts) (.ref p :: tv) rs sg fp' ∧ Step K G H (fun a => f1 a ∨ fp a) G (upd H p (.tup va)) fp' := by
  have r2 := r.pushN (reps_rev h) dj hg
  exact r2.newT (reps_len h) n
theorem sat_tupc {ta : TE} {a : E} (ha : Opd X W ta a) (mv : Bool) : Sat X W (tCB (rTupc X.K) (runs [ta])) (evE (.tupc a) mv) := by
  intro rs r e sg G H ts tv fp Q hR h1 h2
  simp only [evE] at e
  unfold Opd at ha
  show ta sg H fun x H1 => rTupc X.K [x] H1 Q
  cases q0 : slotOf a with
  | some s =>
    rw [q0] at e ha
    simp only at e ha
    subst ha
    unfold tupLoc at e
    obtain ⟨d, qd, e⟩ := ob_some e
    obtain ⟨xs, qx, e⟩ := ob_some e
    split at e
    · rename_i hz
      cases e
      obtain ⟨v, hv⟩ := hR.val qd (by intro z; rw [z] at qx; cases qx)
      obtain ⟨f1, f2, k1, r2, dj, ef⟩ := (hR.take qd hv).top
      obtain ⟨a, vs, f3, ev, hs, hr, hf⟩ := lst_rep k1 (fun a o h => (hR.sub a o h).1) qx
      subst ev
      have f3e : ∀ a, ¬ f3 a := reps_emp xs hz hr
      refine ⟨_, hv, a, vs, rfl, .inl ⟨hs, fun l hl => ?_⟩⟩
      obtain ⟨f4, r4, st4⟩ := hR.newT' (as := xs) hr (fun a z => absurd z (f3e a)) (fun a o _ z => f3e a z) hl
      refine h1 _ _ rfl _ _ _ f4 ⟨fun a o h n => st4.keep a o h (fun z => z.elim (f3e a) n), st4.tups, fun a z => (st4.new a z).imp id (fun q => q.elim (fun w => absurd w (f3e a)) id), st4.grow, fun a o h => .inl h⟩ r4
    · cases e
  | none =>
    rw [q0] at e ha
    simp only at e ha
    rcases bd_some e with ⟨d, rs1, q, e⟩ | ⟨x, rs1, q, e⟩
    · refine ha rs _ q sg G H ts tv fp _ hR (fun d' rs' er v G' H' f' st r' => ?_) (fun x rs' er => by cases er)
      cases er
      unfold tupTmp at e
      obtain ⟨xs, qx, e⟩ := ob_some e
      cases e
      obtain ⟨f1, f2, k1, r2, dj, ef⟩ := r'.top
      obtain ⟨a, vs, f3, ev, hs, hr, hf⟩ := lst_rep k1 (fun a o h => (r'.sub a o h).1) qx
      subst ev
      refine ⟨a, vs, rfl, .inl ⟨hs, fun l hl => ?_⟩⟩
      obtain ⟨f4, r4, st4⟩ := r2.newT' (as := xs) hr (fun a z => dj a (hf a z)) (fun a o h z => (r'.sub a o h).2 ((ef a).2 (.inl (hf a z)))) hl
      refine h1 _ _ rfl _ _ _ f4 (st.trans ⟨fun a o h n => st4.keep a o h (fun z => n ((ef a).2 (z.imp (hf a) id))), st4.tups, fun a z => (st4.new a z).imp id (fun q => (ef a).2 (q.imp (hf a) id)), st4.grow, fun a o h => .inl h⟩) r4
    · subst e
      exact ha rs _ q sg G H ts tv fp _ hR (fun d' rs' er => by cases er) (fun x' rs' er => by cases er; exact h2 _ _ rfl)
theorem pe_tupc {a : Expr} {ta : TE} {x : Str} {p pos : Pos} (hx : x = "tuple") (gx : Gl X x ∧ (x == ("__debug__" : Str)) = false ∧ x ≠ "__name__") (mx : X.mg "tuple" = none) (hn : nst a = true) (ha : PE X a ta) : PE X (.Call (.Name x p) [a] [] pos) (tCB (rTupc X.K) (runs [ta])) := by
  subst hx
  have hs : ∀ e ∈ [a], nst e = true := fun e he => by
    simp only [List.mem_cons, List.not_mem_nil, or_false] at he
    subst he; exact hn
  exact pe_callTy call_tuple_of gx.1 mx (by decide +kernel) (pa_of (.one ha) hs) gx.2.2 gx.2.1 (star_nst hn _ _) (back_nst (fun e he => hs e (List.mem_cons_of_mem _ he)) _ _)
end
end Pv

set_option maxHeartbeats 2000000
namespace Pv
open PySem PySem.Spec PyProof.Rows L2
/-! ### own __len__ -/
section
variable {X : Cx} {CX : CXT} {k : Nat} {C f : Addr} {fd : FuncData} {ps : List Str} {sp : Sp} {E : L2.St → XK}
/-- a call from within a builtin -/
theorem run_fnI {pins : List (Addr × Obj)} {σ : L2.St} {H : Hp} {s : Shared} {Q : VK} {us : List Value} {vs : List V} (F : FnOk X.prog X.w X.K X.mg X.base CX k f fd ps sp) (hr : Room (k + 1) X.A) (hb : Binds X.K fd ps []) (hx : PassesAt CX X σ (E σ))
    (I : Inv X pins σ H s) (r : Vals vs us) (h : sp vs H Q (E σ)) : wpAny (model X.prog X.w) X.A.in1 (call (.ref f) us) (EP X pins σ Q) X.xe s := by
  have hl : us.length = ps.length := by rw [← r.length]; exact F.len _ _ _ _ h
  have hb' := hb s us I.kIn (by simpa using hl)
  rw [List.append_nil] at hb'
  refine wpAny_call (codeAny_mono (F.run X.A.in1 X.stack s H ⟨us, []⟩ us vs Q (E σ) hr.in1 I.env0.in1 hb' r h) fun r s' hq => ?_)
  cases r with
  | error e => exact hx pins H s e s' I hq
  | ok fl =>
    cases fl with
    | ret u => exact I.after hq
    | next => exact False.elim hq
    | brk => exact False.elim hq
    | cont => exact False.elim hq
theorem inst_of {pins : List (Addr × Obj)} {σ : L2.St} {H : Hp} {s : Shared} {a dx : Addr} {fs : List (Str × V)} (I : Inv X pins σ H s) (e : H a = some (.ins C dx fs)) : ∃ ox od, PySem.W.InstAt s.heap a ox C od := by
  obtain ⟨mA, O, _⟩ := ins_get I.hok e
  obtain ⟨od, h1, _⟩ := lookIn_ns O.ns
  exact ⟨_, some od, O.obj, rfl, rfl, h1⟩
theorem len_ins {pins : List (Addr × Obj)} {σ : L2.St} {H : Hp} {s : Shared} {Q : VK} {a dx : Addr} {fs : List (Str × V)} (F : FnOk X.prog X.w X.K X.mg X.base CX k f fd ps sp) (hr : Room (k + 1) X.A) (hb : Binds X.K fd ps []) (hx : PassesAt CX X σ (E σ)) (hm : Meth X.K C "__len__" f)
    (I : Inv X pins σ H s) (e : H a = some (.ins C dx fs)) (h : sp [.ref a] H (fun v H2 => ∃ n : Int, v = .int n ∧ 0 ≤ n ∧ n < 2 ^ 62 ∧ Q (.int n) H2) (E σ)) : wpAny (model X.prog X.w) X.A (call (.builtin "len") [.ref a]) (EP X pins σ Q) X.xe s := by
  obtain ⟨ox, od, J⟩ := inst_of I e
  have hcall := run_fnI (us := [.ref a]) (vs := [.ref a]) F hr hb hx I (.cons rfl .nil) h
  refine Calls.call_function_entry kind_len plain_len entry_len (args_len1 _) ?_
  unfold Builtin.«len»
  refine wpAny_bind (m := oneArg "len" _) (wpAny_pure ?_)
  refine wpAny_bind (m := callSpecial? (.ref a) (Str.ofString "__len__")) (PySem.W.special_fn I.kIn J hm.at_ (beq_iff_eq.mp hm.fn) (wpAny_mono hcall (fun r s' hr => ?_) fun _ _ y => y))
  obtain ⟨v, H2, I2, rv, n, rfl, h0, h1, q⟩ := hr
  obtain ⟨t, rfl⟩ := rv
  refine wpAny_bind (wpAny_holding (wpAny_pure ?_))
  refine wpAny_bind (wpAny_letGo ?_)
  show wpAny _ _ (if n < 0 then _ else _) _ _ _
  rw [if_neg (by omega)]
  show wpAny _ _ (if n ≥ 2 ^ 63 then _ else _) _ _ _
  rw [if_neg (by omega)]
  exact wpAny_bind (wpAny_mkInt (wpAny_pure ⟨_, rfl, .int n, H2, I2.tok _, ⟨_, rfl⟩, q⟩))
theorem item_ins {value slice : Expr} {pins : List (Addr × Obj)} {σ : L2.St} {H : Hp} {s : Shared} {Q : VK} {a dx : Addr} {fs : List (Str × V)} {i : Value} {y : V} (F : FnOk X.prog X.w X.K X.mg X.base CX k f fd ps sp) (hr : Room (k + 1) X.A) (hb : Binds X.K fd ps []) (hx : PassesAt CX X σ (E σ)) (hm : Meth X.K C "__getitem__" f) (hf : PySem.W.fnIn X.K f = true)
    (I : Inv X pins σ H s) (e : H a = some (.ins C dx fs)) (ry : RelV y i) (h : sp [.ref a, y] H Q (E σ)) (hsl : subscripted slice true (.ref a) i = runValue (.builtin "lifetime.subscript" ⟨[.ref a, i], []⟩)) : wpAny (model X.prog X.w) X.A (subscriptTail value slice (.ref a) i) (EP X pins σ Q) X.xe s := by
  obtain ⟨ox, od, J⟩ := inst_of I e
  have hcall := run_fnI (us := [.ref a, i]) (vs := [.ref a, y]) F hr hb hx I (.cons rfl (.cons ry .nil)) h
  have K := I.kIn
  unfold PySem.W.fnIn at hf
  split at hf
  · rename_i e
    unfold subscriptTail getitemInPython
    refine wpAny_bind (wpAny_bind (wpAny_bind (J.type.here ((PySem.W.looks_findIn K hm.at_).here ?_))))
    dsimp only
    refine wpAny_bind (wpAny_load (K _ _ e) (wpAny_pure ?_))
    dsimp only
    rw [hsl]
    refine wpAny_bind (wpAny_runValue (codeAny_builtin PySem.W.entry_sub ?_))
    unfold Builtin.«lifetime.subscript»
    refine wpAny_bind (PySem.W.special_fn K J hm.at_ (beq_iff_eq.mp hm.fn) (wpAny_mono hcall (fun v s' z => ?_) fun _ _ z => z))
    refine wpAny_pure ?_
    show wpAny _ X.A (letTemporaryGo value (.ref a) v >>= fun _ => pure v) _ _ s'
    exact wpAny_bind (wpAny_letTemporaryGo (wpAny_pure z))
  · cases hf
def lenQ (Q : VK) : VK := fun v H2 => ∃ n : Int, v = .int n ∧ 0 ≤ n ∧ n < 2 ^ 62 ∧ Q (.int n) H2
def tLenO (C : Addr) (sp : Sp) (E : L2.St → XK) (ta : TE) : TE := fun σ H Q => tMethS C "__len__" sp E ta (runs []) σ H (lenQ Q)
theorem pe_lenO {y : Str} {p q pos : Pos} {ta : TE} (he : PE X (.Name y q) ta) (gl : Gl X "len") (mg : X.mg "len" = none) (F : FnOk X.prog X.w X.K X.mg X.base CX k f fd ps sp) (hr : Room (k + 1) X.A) (hb : Binds X.K fd ps []) (hx : ∀ σ, PassesAt CX X σ (E σ)) (hm : Meth X.K C "__len__" f) :
    PE X (.Call (.Name "len" p) [.Name y q] [] pos) (tLenO C sp E ta) := by
  refine ⟨fun pins s σ H Q I h => ?_⟩
  refine Call_ (ld_blt I gl mg PySem.boot_len ?_)
  refine PyProof.Rows.callWith_builtin1 (PyProof.Rows.args_cons (thn (he.run pins s σ H _ I h) fun v s1 ⟨x, H1, I1, r1, a, dx, fs, ex, ea, l, q⟩ => PyProof.Rows.args_nil ?_) (by rfl)) (by rfl) rfl
  subst ex
  cases r1
  exact len_ins F hr hb (hx σ) hm I1 ea q
def tItmO (C : Addr) (sp : Sp) (E : L2.St → XK) (ta : TE) (t : TA) : TE := fun σ H Q => ta σ H fun x H1 => t σ H1 fun vs H2 => ∃ a dx fs, x = .ref a ∧ H2 a = some (.ins C dx fs) ∧ sp (x :: vs) H2 Q (E σ)
theorem pe_itmO {x : Str} {p pos : Pos} {sl : Expr} {ta tb : TE} (he : PE X (.Name x p) ta) (hs : PE X sl tb) (F : FnOk X.prog X.w X.K X.mg X.base CX k f fd ps sp) (hr : Room (k + 1) X.A) (hb : Binds X.K fd ps []) (hx : ∀ σ, PassesAt CX X σ (E σ)) (hm : Meth X.K C "__getitem__" f) (hf : PySem.W.fnIn X.K f = true)
    (hn : nsl sl = true) : PE X (.Subscript (.Name x p) sl pos) (tItmO C sp E ta (runs [tb])) := by
  refine ⟨fun pins s σ H Q I h => ?_⟩
  refine Subscript_ (binT he hs I h fun v u s2 x y H2 I2 rx ry q => ?_)
  obtain ⟨a, dx, fs, ex, ea, q⟩ := q
  subst ex
  cases rx
  exact item_ins F hr hb (hx σ) hm hf I2 ea ry q (by cases sl <;> first | rfl | cases hn)
theorem sat_lenO {s : Nat} {C : Str} {Ca : Addr} {f : Fn} {W : WX} (hm : X.mg C = some (.ref Ca)) :
    Sat X W (tLenO Ca (spOf X.K X.mg f) (WE W) (tVar s)) (fun rs => if objOk C "__len__" rs[s]? then lenRes (callD f [.loc s] rs) else none) := by
  intro rs r e sg G H ts tv fp Q hR h1 h2
  dsimp only at e
  split at e
  case isFalse => cases e
  rename_i ho
  cases qc : callD f [.loc s] rs with
  | none => rw [qc] at e; cases e
  | some r0 =>
    rw [qc] at e
    refine sat_meth (W := W) (s := s) (as := .nil) (tes := []) hm (satA_nil (X := X) (W := W)) rs r0 (by simp only [ho, if_true, evA, Pv.a0, Res.bd, qc]) sg G H ts tv fp (lenQ Q) hR (fun d rs' er v G' H' f' st r' => ?_) fun x rs' er => ?_
    · subst er
      cases d <;> first | (cases e; done) | skip
      rename_i n
      simp only [lenRes] at e
      split at e
      case isFalse => cases e
      rename_i hn
      cases e
      cases vw_int (show Vw X.K X.mg H' (.int n) v from r'.viewT)
      exact ⟨n, rfl, hn.1, by omega, h1 _ _ rfl _ _ _ _ st r'⟩
    · subst er
      cases e
      exact h2 _ _ rfl
theorem sat_itmO {s : Nat} {C : Str} {Ca : Addr} {f : Fn} {W : WX} {tes : List TE} {as : Es} (hm : X.mg C = some (.ref Ca)) (h : SatA X W tes (evA as)) :
    Sat X W (tItmO Ca (spOf X.K X.mg f) (WE W) (tVar s) (runs tes)) (fun rs => ob rs[s]? fun d0 => if isUn d0 then none else Res.bd (evA as rs) fun as rs1 => if objOk C "__getitem__" rs1[s]? then callD f (.loc s :: as) rs1 else none) := by
  intro rs r e sg G H ts tv fp Q hR h1 h2
  obtain ⟨d0, qd0, e⟩ := ob_some e
  split at e
  · cases e
  rename_i hu
  obtain ⟨v0, hv⟩ := hR.val qd0 (by intro z; rw [z] at hu; exact hu rfl)
  refine ⟨v0, hv, ?_⟩
  rcases bd_some e with ⟨as', rs1, q, e3⟩ | ⟨x, rs1, q, e3⟩
  · refine h rs _ q sg G H ts tv fp _ hR (fun as2 rs' er vs va G' H' f' st r' ar => ?_) (fun x rs' er => by cases er)
    cases er
    split at e3
    case isFalse => cases e3
    rename_i ho
    obtain ⟨d1, q1⟩ : ∃ d1, rs1[s]? = some d1 := by
      cases q : rs1[s]? with
      | none => rw [q] at ho; cases ho
      | some d1 => exact ⟨d1, rfl⟩
    rw [q1] at ho
    cases d1 <;> first | (cases ho; done) | skip
    rename_i o C' ns xs
    obtain ⟨o1, o2⟩ := ands ho
    have o1 := of_decide_eq_true o1
    subst o1
    have vw := r'.view q1 hv
    simp only [Pv.fz] at vw
    obtain ⟨a, Ca', dx, fs, f', rfl, hm', hH, hns, hr, _⟩ := rep_obj vw fun _ _ h => h
    have hm2 : X.mg C' = some (.ref Ca') := hm'
    rw [hm] at hm2
    cases hm2
    exact ⟨a, dx, fs, rfl, hH, call_sp (as := .loc s :: as') (vs := .ref a :: vs) r' (.loc hv ar) e3 (fun d rs' er v G2 H2 f2 st2 r2 => h1 d rs' er v G2 H2 f2 (st.trans st2) r2) fun x rs' er cls da G2 H2 f2 st2 r2 xr => h2 x rs' er cls da G2 H2 f2 (st.trans st2) r2 xr⟩
  · subst e3
    exact h rs _ q sg G H ts tv fp _ hR (fun d' rs' er => by cases er) (fun x' rs' er => by cases er; exact h2 _ _ rfl)
end
end Pv

set_option maxHeartbeats 2000000
namespace Pv
open PySem PySem.Spec PyProof.Rows L2 PpSet
/-! ### the number of distinct tuples: len({t for ..}) -/
section
variable {X : Cx}
theorem addT_ok {pins : List (Addr × Obj)} {σ : L2.St} {H : Hp} {s : Shared} {E : Value → Shared → Prop} {D t : Addr} {k : List Int} {L : List (Addr × List Int)} {Q : Value → Shared → Prop} (I : Inv X pins σ H s) (hh : X.A.handled = none) (hu : X.A.in1.units < cLine)
    (hD : H D = some (SetTO X.prog X.w D L)) (ht : SqT X.K H t (k.map V.int)) (hL : ∀ p ∈ L, SqT X.K H p.1 (p.2.map V.int)) (room : L.length + 1 < 64)
    (h : ∀ L', (k ∈ L.map (·.2) → L' = L) → (k ∉ L.map (·.2) → L'.Perm ((t, k) :: L)) → ∀ s', Inv X pins σ (upd H D (SetTO X.prog X.w D L')) s' → Q .none s') : wpAny (model X.prog X.w) X.A (call (.builtin "set.add") [.ref D, .ref t]) Q E s := by
  have R0 : SetT0 X.prog X.w s.heap D L := (I.hok D _ hD).1
  obtain ⟨es, ep, tb, RR⟩ := R0.full fun p hp => I.isT (hL p hp)
  have hT : s.TypeIs (.ref D) "set" := by
    obtain ⟨o, ho, hex, hd⟩ := RR.ob
    exact ⟨o, ho, hex.1⟩
  have hx := I.isT ht
  refine wpAny_call_entry F.slot_set_add hT F.entry_set_add ?_ (F.args_set_add_2 _ _)
  unfold Builtin.«set.add» Builtin.Frozenset.oneOther
  simp only [List.isEmpty_nil, bind_assoc]
  unfold Builtin.Frozenset.addrOf setAdd
  refine wpAny_bind (wpAny_pure ?_)
  try dsimp only
  refine wpAny_bind (wpAny_pure ?_)
  try dsimp only
  refine wpAny_bind ?_
  refine wpAny_holding ?_
  refine wpAny_bind (wpAny_pyHash_tuple hu hx ?_)
  refine add_at (s := { s with toks := s.toks + (k.length + 1) }) RR hx hu room fun b h' L' es' ep' t' sb R' c1 c2 => ?_
  show wpAny _ _ (ret Value.none) _ _ _
  refine wpAny_pure ⟨_, rfl, h L' c1 c2 _ ?_⟩
  have he : ∃ u, h'.get? D = some u := by
    obtain ⟨o, ho, _⟩ := R'.ob
    exact ⟨o, ho⟩
  exact I.write (e := D) (t' := s.toks + (k.length + 1)) (by rw [hD]; trivial) (.inl rfl) (fun b u hb hu => (sb.2 b hb).trans hu) he (setTO_new R'.t0)
/-- {elt for target in iter if ..}, elt a tuple of ints: D the new set -/
def tSct (P : Program) (w : World) (K : Fr) (wi : TI) (g : TG) (tt : TT) (te : TE) (vs : List Nat) : TE := fun σ H Q => wi σ H fun J H1 => ∀ D, H1 D = none → ∃ W : Nat → Nat → Hp → Prop, (∃ m, W 0 m (upd H1 D (SetTO P w D []))) ∧ ∀ i m H, W i m H →
  (J.stop i H ∧ Q (.ref D) H) ∨ (J.go i H ∧ ∃ Nx : Hp → Prop, (∀ H', Nx H' → ∃ m', m' < m ∧ W (i + 1) m' H') ∧ ∀ x H', J.yld i H x H' → g x (wipe σ vs) H' fun σ2 H2 => wipe σ2 vs = wipe σ vs ∧ tt σ2 H2 fun b H3 =>
    if b = true then te σ2 H3 fun y H4 => ∃ (t : Addr) (k : List Int) (L : List (Addr × List Int)), y = .ref t ∧ H4 D = some (SetTO P w D L) ∧ SqT K H4 t (k.map V.int) ∧ (∀ p ∈ L, SqT K H4 p.1 (p.2.map V.int)) ∧ L.length + 1 < 64 ∧
      ∀ L', (k ∈ L.map (·.2) → L' = L) → (k ∉ L.map (·.2) → L'.Perm ((t, k) :: L)) → Nx (upd H4 D (SetTO P w D L')) else Nx H3)
theorem sct_core {pins : List (Addr × Obj)} {s : Shared} {σ : L2.St} {H : Hp} {Q : VK} {elt tg iter : Expr} {ifs : List Expr} {scope : Scope} {own : List (PySem.Str × Nat)} {pos pos' : Pos} {wi : TI} {g : TG} {tt : TT} {te : TE} {use : Option (Value → Sem Unit)} {Qf : Value → Shared → Prop}
    (hc : X.calm = true) (hu : X.A.units + 64 < cLine) (hN : X.N.Nodup) (I : Inv X pins σ H s) (hi : PI X tg iter wi) (ok : BlkOk X.N X.env.scope scope own)
    (hg : ∀ (s : Shared) (H : Hp) (C : Addr) (cl : List (PySem.Str × Addr)) (fp : List Addr), PG (X.blk s H scope (compEnvC scope cl C X.env) fp) tg g) (ht : ∀ (s : Shared) (H : Hp) (C : Addr) (cl : List (PySem.Str × Addr)) (fp : List Addr), PTs (X.blk s H scope (compEnvC scope cl C X.env) fp) ifs tt)
    (he : ∀ (s : Shared) (H : Hp) (C : Addr) (cl : List (PySem.Str × Addr)) (fp : List Addr), PE (X.blk s H scope (compEnvC scope cl C X.env) fp) elt te) (hs : ∀ x, foldedSetIterable iter X.env x = pure x)
    (h : tSct X.prog X.w X.K wi g tt te (own.map (·.2)) σ H Q)
    (hRR : ∀ D C s' m H', Inv X pins σ H' s' → Q (.ref D) H' → s'.heap.Ns C m → FpOk X pins H' C → compPost (model X.prog X.w) X.A X.xe use Qf (.ref D) C (.ok .next) s') :
    wpAny (model X.prog X.w) X.A (comprehension (.SetComp elt [⟨tg, iter, ifs, 0⟩] scope pos) scope X.env pos' (newSet (.type "set")) false (eval iter X.env) use) Qf X.xe s := by
  have hfree : ∀ y ∈ scope.names, y.2 = .free → ∃ c, X.env.cells.lookup y.1 = some c := fun y hy e => by
    rcases ok.free y hy e with k | k
    · exact I.ok.has _ (.inl k)
    · exact I.ok.has _ (.inr k)
  refine wpAny_comprehension_free (use := use) rfl hs (closure_ok hfree) ok.kind (fun y hy e => by rw [ok.uniq y hy, e])
    (thn (hi.run pins s σ H _ I h) fun xv s1 hx => thn hx fun itv s2 h2 => ?_)
  obtain ⟨it, fp, tn, J, H2, e, I2, T, st2, f2, q⟩ := h2
  subst e
  refine newSet_ok (newEnv_comp ?_)
  generalize hD : s2.heap.objs.size = D
  have hDn : H2 D = none := I2.hok.fresh (Nat.le_of_eq hD)
  obtain ⟨W, ⟨m0, w0⟩, turn⟩ := q D hDn
  -- the new list
  generalize hs3 : ({ s2 with heap := s2.heap.push { cls := .type "set", dict := none, data := .set #[] 0 (.fresh 0 0 (!X.w.params.followText "set-order")) } } : Shared) = s3
  have I3 : Inv X pins σ (upd H2 D (SetTO X.prog X.w D [])) s3 := by
    rw [← hs3]
    refine I2.laid (t' := s2.toks) (fun b o e => Heap.get?_push_of_some _ e) (Nat.le_of_eq hD) ?_
    rw [← hD]
    exact setTO_new (SetTR.t0 (setTR_fresh (Heap.get?_push_size _ rfl)))
  have h3 : s3.heap = s2.heap.push { cls := .type "set", dict := none, data := .set #[] 0 (.fresh 0 0 (!X.w.params.followText "set-order")) } := by rw [← hs3]
  have sz : ∀ b ∈ fp, b < s2.heap.objs.size := fun b hb => by
    obtain ⟨o, e, _⟩ := T.obj _ _ st2 b hb
    exact Heap.lt_size e
  have f3 : ∀ b ∈ fp, FpOk X pins (upd H2 D (SetTO X.prog X.w D [])) b ∧ b < s3.heap.objs.size := fun b hb => by
    have hlt := sz b hb
    refine ⟨⟨?_, (f2 b hb).2⟩, by rw [h3, Heap.size_push]; exact Nat.lt_succ_of_lt hlt⟩
    rw [upd_ne (by rw [← hD]; exact Nat.ne_of_lt hlt)]
    exact (f2 b hb).1
  have st3 : tn 0 s3.heap := T.keep _ _ _ st2 fun b _ o e => by rw [h3]; exact Heap.get?_push_of_some _ e
  have I4 := block_start I3 ok hN f3
  have pg := hg s3 (upd H2 D (SetTO X.prog X.w D [])) s3.heap.objs.size (cellsFrom (s3.heap.objs.size + 1) scope.names (cloFrom X.env.cells scope.names [])) fp
  have pt := ht s3 (upd H2 D (SetTO X.prog X.w D [])) s3.heap.objs.size (cellsFrom (s3.heap.objs.size + 1) scope.names (cloFrom X.env.cells scope.names [])) fp
  have pe := he s3 (upd H2 D (SetTO X.prog X.w D [])) s3.heap.objs.size (cellsFrom (s3.heap.objs.size + 1) scope.names (cloFrom X.env.cells scope.names [])) fp
  show codeAny _ _ (.compStart (.SetComp elt [⟨tg, iter, ifs, 0⟩] scope pos) 0 (.ref it) (.ref D) (compEnvC scope (cellsFrom (s3.heap.objs.size + 1) scope.names (cloFrom X.env.cells scope.names [])) s3.heap.objs.size X.env)) (compPost (model X.prog X.w) X.A X.xe use Qf (.ref D) s3.heap.objs.size) { s3 with heap := pushCells (s3.heap.push { cls := .type "dict", data := .dict #[] }) scope.names }
  have nfp : ∀ b ∈ fp, (upd H2 D (SetTO X.prog X.w D [])) b = none := fun b hb => (f3 b hb).1.1
  generalize hce : compEnvC scope (cellsFrom (s3.heap.objs.size + 1) scope.names (cloFrom X.env.cells scope.names [])) s3.heap.objs.size X.env = ce at I4 pg pt pe ⊢
  have cL : ce.locals = s3.heap.objs.size := by subst hce; rfl
  generalize hH3 : upd H2 D (SetTO X.prog X.w D []) = H3 at I3 I4 pg pt pe w0 nfp f3
  generalize hs4 : ({ s3 with heap := pushCells (s3.heap.push { cls := .type "dict", data := .dict #[] }) scope.names } : Shared) = s4 at I4 ⊢
  have st4 : tn 0 s4.heap := T.keep _ _ _ st3 fun b _ o e => by rw [← hs4]; exact pushCells_keeps _ _ _ _ (Heap.get?_push_of_some _ e)
  have stat : ∀ {σ' : L2.St} {H' : Hp} {s' : Shared}, Inv (X.blk s3 H3 scope ce fp) [] σ' H' s' → (∀ b ∈ fp, H' b = none) → ∀ b ∈ fp, FpOk (X.blk s3 H3 scope ce fp) [] H' b := fun {σ' H' s'} I' hn b hb =>
    ⟨hn b hb, (I'.ok.exf b hb).1, I'.ok.exfs b hb, .inl hb, fun x c e => (I'.ok.exf b hb).2 x c e, fun p hp => absurd (show p ∈ ([] : List (Addr × Obj)) ++ [] from hp) (by simp)⟩
  have loop : codeAny (model X.prog X.w) X.A (.compLoop (.SetComp elt [⟨tg, iter, ifs, 0⟩] scope pos) 0 (.ref it) (.ref D) ce) (compPost (model X.prog X.w) X.A X.xe use Qf (.ref D) s3.heap.objs.size) s4 := by
    refine compLoopS_any (fun n s' => ∃ i H', Inv (X.blk s3 H3 scope ce fp) [] (wipe σ (own.map (·.2))) H' s' ∧ tn i s'.heap ∧ (∀ b ∈ fp, H' b = none) ∧ W i n H') ?_ m0 ⟨0, H3, I4, st4, nfp, w0⟩
    rintro n s5 ⟨i, H5, I5, st5, n5, w5⟩
    rcases turn i n H5 w5 with ⟨stop, qq⟩ | ⟨go, Nx, hNx, step⟩
    · have td := T.done (X.blk s3 H3 scope ce fp) rfl rfl rfl hc i [] s5 _ H5 (fun _ _ => False) I5 (stat I5 n5) st5 stop
      refine thnF td fun r s6 ⟨hr, I6⟩ => ?_
      subst hr
      -- back in the def's context
      have I7 : Inv X pins σ H5 s6 := I3.call' (ch := fp) I6.os I6.base I6.hok I6.bare fun b hb => ⟨(f3 b hb).1.2.2.2.1, (f3 b hb).1.2.1, (f3 b hb).1.2.2.2.2.1, (f3 b hb).1.2.2.2.2.2⟩
      have nC : H5 s3.heap.objs.size = none := by
        have z : H5 ce.locals = none := I6.free
        rw [cL] at z
        exact z
      obtain ⟨m, hn, _⟩ := I6.loc
      have hn : s6.heap.Ns ce.locals m := hn
      rw [cL] at hn
      exact hRR D s3.heap.objs.size s6 m H5 I7 qq hn (I3.fpOk (Nat.le_refl _) nC)
    · have ti := T.item (X.blk s3 H3 scope ce fp) rfl rfl rfl hc i [] s5 _ H5 (fun _ _ => False) I5 (stat I5 n5) st5 go
      refine thnF ti fun r s6 ⟨u, hr, h6⟩ => ?_
      subst hr
      refine thnF h6 fun _ s7 ⟨x, H7, I7, r7, y7, st7, n7⟩ => ?_
      have I7' := I7.pinned (stat I7 n7) (T.obj _ _ st7)
      refine thnF (pg.run _ s7 _ H7 x u _ I7' r7 (step x H7 y7)) fun _ s8 ⟨σ8, H8, I8, hw8, q8⟩ => ?_
      refine thnF (pt.run _ s8 σ8 H8 _ I8 q8) fun b s9 ⟨H9, I9, q9⟩ => ?_
      -- the turn's end
      have fin : ∀ {s' : Shared} {H' : Hp}, Inv (X.blk s3 H3 scope ce fp) ([] ++ pinsAt fp s7.heap) σ8 H' s' → Nx H' → ∃ m, m < n ∧ ∃ i H', Inv (X.blk s3 H3 scope ce fp) [] (wipe σ (own.map (·.2))) H' s' ∧ tn i s'.heap ∧ (∀ b ∈ fp, H' b = none) ∧ W i m H' := fun {s' H'} I' nx => by
        obtain ⟨m', hm, w'⟩ := hNx H' nx
        have pin' : ∀ b ∈ fp, ∀ o, s7.heap.get? b = some o → s'.heap.get? b = some o ∧ H' b = none := fun b hb o e =>
          let z := I'.pin (b, o) (List.mem_append_right _ (List.mem_append_right _ (mem_pinsAt hb e)))
          ⟨z.1, z.2.1⟩
        have hl : (wipe σ (own.map (·.2))).length = σ8.length := by rw [← hw8, wipe_length]
        refine ⟨m', hm, i + 1, H', (I'.unpinned (pins := [])).weak hl (fun j v e => ?_), T.keep _ _ _ st7 fun b hb o e => (pin' b hb o e).1, fun b hb => ?_, w'⟩
        · rw [← hw8] at e
          exact (wipe_some e).1
        · obtain ⟨o, e, _⟩ := T.obj _ _ st7 b hb
          exact (pin' b hb o e).2
      cases b with
      | false =>
        simp only [Bool.false_eq_true, if_false] at q9 ⊢
        exact fin I9 q9
      | true =>
        simp only [if_true] at q9 ⊢
        refine thnF (pe.run _ s9 σ8 H9 _ I9 q9) fun z s10 ⟨yv, H10, I10, r10, tb, kb, L0, ey, hD10, hk10, hL10, hz10, nx⟩ => ?_
        subst ey
        cases (show z = Value.ref tb from r10)
        exact addT_ok (X := X.blk s3 H3 scope ce fp) I10 (I10.ok.hd hc) (Nat.lt_of_le_of_lt (show X.A.units + 1 ≤ X.A.units + 64 by omega) hu) hD10 hk10 hL10 hz10 fun L' q1 q2 s11 I11 => fin I11 (nx L' q1 q2)
  exact codeAny_compStart_set loop (T.self X.A 0 _ _ _ st4 loop)

/-- its length -/
def tLenSct (P : Program) (w : World) (t : TE) : TE := fun σ H Q => t σ H fun y H1 => ∃ (D : Addr) (L : List (Addr × List Int)), y = .ref D ∧ H1 D = some (SetTO P w D L) ∧ Q (.int (L.length : Nat)) H1
theorem pe_lensct {elt tg iter : Expr} {ifs : List Expr} {scope : Scope} {own : List (PySem.Str × Nat)} {p pos pos2 : Pos} {wi : TI} {g : TG} {tt : TT} {te : TE} (hc : X.calm = true) (hu : X.A.units + 64 < cLine) (hN : X.N.Nodup) (hgl : Gl X "len") (hm : X.mg "len" = none)
    (hi : PI X tg iter wi) (ok : BlkOk X.N X.env.scope scope own)
    (hg : ∀ (s : Shared) (H : Hp) (C : Addr) (cl : List (PySem.Str × Addr)) (fp : List Addr), PG (X.blk s H scope (compEnvC scope cl C X.env) fp) tg g) (ht : ∀ (s : Shared) (H : Hp) (C : Addr) (cl : List (PySem.Str × Addr)) (fp : List Addr), PTs (X.blk s H scope (compEnvC scope cl C X.env) fp) ifs tt)
    (he : ∀ (s : Shared) (H : Hp) (C : Addr) (cl : List (PySem.Str × Addr)) (fp : List Addr), PE (X.blk s H scope (compEnvC scope cl C X.env) fp) elt te) (hs : ∀ x, foldedSetIterable iter X.env x = pure x) :
    PE X (.Call (.Name "len" p) [.SetComp elt [⟨tg, iter, ifs, 0⟩] scope pos] [] pos2) (tLenSct X.prog X.w (tSct X.prog X.w X.K wi g tt te (own.map (·.2)))) := by
  have pe : PE X (.SetComp elt [⟨tg, iter, ifs, 0⟩] scope pos) (tSct X.prog X.w X.K wi g tt te (own.map (·.2))) := by
    refine ⟨fun pins s σ H Q I h => ?_⟩
    rw [eval_SetComp]
    refine sct_core hc hu hN I hi ok hg ht he hs h fun D C s' m H' I' q hn f => ⟨m, hn, fun h'' sb => ?_⟩
    obtain ⟨f0, f1, f2, f3, f4, f5⟩ := f
    exact ⟨.ref D, H', I'.turned (t' := s'.toks) (fun b o hb e => (sb.2 b hb).trans e) f0 f1 f3 f4 f5, rfl, q⟩
  refine ⟨fun pins s σ H Q I h => ?_⟩
  refine Call_ (ld_blt I hgl hm PySem.boot_len ?_)
  refine PyProof.Rows.callWith_builtin1 (PyProof.Rows.args_cons (thn (pe.run pins s σ H _ I h) fun v s1 ⟨x, H1, I1, r1, D, L, ex, hD, q⟩ => PyProof.Rows.args_nil ?_) (by rfl)) (by rfl) rfl
  subst ex
  cases r1
  have R0 : SetT0 X.prog X.w s1.heap D L := (I1.hok D _ hD).1
  obtain ⟨es, ep, t, ⟨o, ho, hex, hd⟩, hrows, tab, nd, pl, led, room, few⟩ := R0
  have hsz : es.size = L.length := by
    have h := congrArg List.length hrows
    unfold rowsOf at h
    rw [Array.length_toList, List.length_map] at h
    exact h
  have hfit : t.fits es.size = true := by
    have h1 := tab.sz
    rw [List.length_map] at h1
    unfold SetTable.fits SetTable.fill
    rw [tab.dm, Bool.and_eq_true, beq_iff_eq, decide_eq_true_eq]
    show t.place.size = es.size ∧ t.place.size + 0 ≤ t.mask
    omega
  exact call_len_set ho hex hd hfit (by rw [hsz]; omega) ⟨.int (L.length : Nat), H1, I1.tok _, ⟨_, by rw [hsz]⟩, q⟩
end
end Pv

set_option maxHeartbeats 2000000
namespace Pv
open PySem PySem.Spec PyProof.Rows L2
/-! ### a place moved out -/
section
variable {K : Fr} {mg : Str → Option Value} {G G' H H' : Hp} {fp f1 f2 : FP} {ts : List D} {tv : List V} {rs : List D} {sg : L2.St} {v : V}
theorem reps_take : ∀ {xs : List D} {vs : List V} {fp : FP} {j : Nat} {c : D}, Reps K mg G H xs vs fp → xs[j]? = some c → ∃ w f1 f2, vs[j]? = some w ∧ Rep K mg G H c w f1 ∧ (∀ a, f1 a → ¬ f2 a) ∧ (∀ a, fp a ↔ (f1 a ∨ f2 a)) ∧ Reps K mg G H (xs.set j .un) vs f2
  | x :: xs, v :: vs, fp, 0, c, h, e => by
    cases e
    simp only [Reps] at h
    obtain ⟨g1, g2, k1, k2, k3, k4⟩ := h
    refine ⟨v, g1, g2, rfl, k1, k3, k4, ?_⟩
    simp only [List.set_cons_zero, Reps]
    refine ⟨fun _ => False, g2, ?_, k2, fun _ z => z.elim, fun a => by simp⟩
    simp only [Rep]
    exact fun _ z => z
  | x :: xs, v :: vs, fp, j + 1, c, h, e => by
    simp only [Reps] at h
    obtain ⟨g1, g2, k1, k2, k3, k4⟩ := h
    obtain ⟨w, f1, f2, q1, q2, q3, q4, q5⟩ := reps_take (j := j) k2 (by simpa using e)
    refine ⟨w, f1, fun a => g1 a ∨ f2 a, by simpa using q1, q2, fun a ha hb => ?_, fun a => ?_, ?_⟩
    · rcases hb with hb | hb
      · exact k3 a hb ((q4 a).2 (.inl ha))
      · exact q3 a ha hb
    · rw [k4 a, q4 a]
      constructor
      · rintro (z | z | z)
        · exact .inr (.inl z)
        · exact .inl z
        · exact .inr (.inr z)
      · rintro (z | z | z)
        · exact .inr (.inl z)
        · exact .inl z
        · exact .inr (.inr z)
    · simp only [List.set_cons_succ, Reps]
      exact ⟨g1, f2, k1, q5, fun a ha hb => k3 a ha ((q4 a).2 (.inr hb)), fun _ => Iff.rfl⟩
  | [], _, _, _, _, _, e => by simp at e
  | _ :: _, [], _, _, _, h, _ => by simp only [Reps] at h
theorem R.mvItem {d c : D} {xs : List D} {k : Int} (r : R K mg G H (d :: ts) (v :: tv) rs sg fp) (e : itemsOf d = some xs) (ek : atI xs k = some c) :
    ∃ a vs w, v = .ref a ∧ (SqL K H a vs ∨ SqT K H a vs) ∧ atI vs k = some w ∧ ∃ fp', R K mg G H (c :: setAt d xs k .un :: ts) (w :: v :: tv) rs sg fp' ∧ Step K G H fp G H fp' := by
  obtain ⟨j, hj, hc⟩ := atI_ix ek
  obtain ⟨f1, f2, h1, r2, dj, e2⟩ := r.top
  have gh : ∀ a o, G a = some o → H a = some o := fun a o h => (r.sub a o h).1
  obtain ⟨a, vs, f3, ev, hs, hr, hf, mk⟩ := rep_items h1 gh e
  obtain ⟨w, g1, g2, q1, q2, q3, q4, q5⟩ := reps_take hr hc
  obtain ⟨f5, k1, k2, k3⟩ := mk G _ g2 (fun _ _ h => h) q5 fun a z => (q4 a).2 (.inr z)
  have le1 : ∀ a, g1 a → f1 a := fun a z => hf a ((q4 a).2 (.inl z))
  have n5 : ∀ a, f5 a → ¬ g1 a := fun a z y => by
    rcases k3 a z with p | p
    · exact q3 a y p
    · exact p ((q4 a).2 (.inl y))
  have ng : ∀ a o, G a = some o → ¬ f1 a := fun a o h z => (r.sub a o h).2 ((e2 a).2 (.inl z))
  have r4 := r2.push k1 (fun a ha hb => dj a (k2 a ha) hb) fun a o h z => ng a o h (k2 a z)
  have es : setAt d xs k .un = withItems d (xs.set j .un) := by simp only [setAt, hj]
  rw [es]
  refine ⟨a, vs, w, ev, hs, atI_of (reps_len hr) hj q1, _, r4.push q2 (fun a ha hb => ?_) (fun a o h z => ng a o h (le1 a z)), .less fun a z => ?_⟩
  · rcases hb with hb | hb
    · exact n5 a hb ha
    · exact dj a (le1 a ha) hb
  · rcases z with z | z | z
    · exact (e2 a).2 (.inl (le1 a z))
    · exact (e2 a).2 (.inl (k2 a z))
    · exact (e2 a).2 (.inr z)
end
section
variable {X : Cx} {W : WX} {c : Ce} {km : Nat} {io : List Nat}
theorem sat_mvix {tb : TE} {s : Nat} {i : E} (hb : Sat X W tb (evE i false)) (mv : Bool) : Sat X W (tOp (rIx X.K) (tVar s) tb) (fun rs => ob rs[s]? fun d0 => if isUn d0 then none else Res.bd (evE i false rs) fun k rs1 => mvLoc s k rs1) := by
  intro rs r e sg G H ts tv fp Q hR h1 h2
  obtain ⟨d0, qd0, e⟩ := ob_some e
  split at e
  · cases e
  rename_i hu
  obtain ⟨v, hv⟩ := hR.val qd0 (by intro z; rw [z] at hu; exact hu rfl)
  refine ⟨v, hv, ?_⟩
  rcases bd_some e with ⟨k, rs1, q, e⟩ | ⟨x, rs1, q, e⟩
  · refine hb rs _ q sg G H ts tv fp _ hR (fun d' rs' er w G' H' f' st r' => ?_) (fun x rs' er => by cases er)
    cases er
    unfold mvLoc at e
    cases k with
    | int k =>
      obtain ⟨d, qd, e⟩ := ob_some e
      obtain ⟨xs, qx, e⟩ := ob_some e
      obtain ⟨c, qc, e⟩ := ob_some e
      cases vw_int (show Vw X.K X.mg H' (.int k) w from r'.viewT)
      obtain ⟨f2, r2, st2⟩ := r'.drop
      have r3 := r2.take qd hv
      split at e
      · cases e
      · cases e
        obtain ⟨a, vs, w, ev, hs, hw, f3, r4, st4⟩ := r3.mvItem qx qc
        subst ev
        obtain ⟨f5, r5, st5⟩ := (r4.swap).back (s := s) hv
        rw [List.set_set] at r5
        exact ix_of hs hw (h1 _ _ rfl w G' H' f5 (((st.trans st2).trans st4).trans st5) r5)
    | _ => cases e
  · subst e
    exact hb rs _ q sg G H ts tv fp _ hR (fun d' rs' er => by cases er) (fun x' rs' er => by cases er; exact h2 _ _ rfl)
end
/-! ### sorted -/
inductive Fa2 {A B : Type} (P : A → B → Prop) : List A → List B → Prop
  | nil : Fa2 P [] []
  | cons {a : A} {b : B} {as : List A} {bs : List B} : P a b → Fa2 P as bs → Fa2 P (a :: as) (b :: bs)
section
variable {K : Fr} {mg : Str → Option Value} {G H : Hp}
theorem fa2_of_reps : ∀ {ds : List D} {vs : List V}, Reps K mg G H ds vs (fun _ => False) → Fa2 (fun d v => Rep K mg G H d v (fun _ => False)) ds vs
  | [], [], _ => .nil
  | d :: ds, v :: vs, h => by
    simp only [Reps] at h
    obtain ⟨g1, g2, k1, k2, k3, k4⟩ := h
    exact .cons (rep_iff k1 fun a => ⟨fun z => (k4 a).2 (.inl z), fun z => z.elim⟩) (fa2_of_reps (reps_iff k2 fun a => ⟨fun z => (k4 a).2 (.inr z), fun z => z.elim⟩))
  | [], _ :: _, h => by simp only [Reps] at h
  | _ :: _, [], h => by simp only [Reps] at h
theorem reps_of_fa2 : ∀ {ds : List D} {vs : List V}, Fa2 (fun d v => Rep K mg G H d v (fun _ => False)) ds vs → Reps K mg G H ds vs (fun _ => False)
  | [], [], _ => by simp only [Reps]; exact fun _ z => z
  | d :: ds, v :: vs, h => by
    cases h with
    | cons h1 h2 =>
      simp only [Reps]
      exact ⟨_, _, h1, reps_of_fa2 h2, fun _ z => z.elim, fun a => by simp⟩
theorem toPds_map : ∀ {ds : List D} {ps : List PyData}, toPds ds = some ps → ds.map pdOf = ps
  | [], ps, e => by cases e; rfl
  | d :: ds, ps, e => by
    simp only [toPds] at e
    cases q1 : toPd d with
    | none => rw [q1] at e; simp at e
    | some x =>
      cases q2 : toPds ds with
      | none => rw [q1, q2] at e; simp at e
      | some l =>
        rw [q1, q2] at e; cases e
        rw [List.map_cons, toPds_map q2, pdOf, q1]; rfl
def rSorted (K : Fr) (mg : Str → Option Value) : List V → Hp → VK → Prop := fun vs H Q => ∃ (a : Addr) (xs : List V) (ds : List D) (ps : List PyData) (P : D → V → Prop), vs = [.ref a] ∧ SqL K H a xs ∧ Vws K mg H ds xs ∧ Fa2 P ds xs ∧ toPds ds = some ps ∧ sortB ps = true ∧ ds.length ≤ 1000 ∧
  ∀ ys p, Fa2 P (sortD ds) ys → H p = none → Q (.ref p) (upd H p (.lst ys))
end
theorem eachIs_of {P : D → V → Prop} : ∀ {ds : List D} {xs : List V} {us : List Value}, Fa2 P ds xs → Vals xs us → PySem.W.EachIs (fun (u : Value) (d : D) => ∃ v, RelV v u ∧ P d v) us ds
  | [], [], [], _, _ => .nil
  | d :: ds, x :: xs, u :: us, h, r => by
    cases h with
    | cons h1 h2 =>
      cases r with
      | cons r1 r2 => exact .cons ⟨x, r1, h1⟩ (eachIs_of h2 r2)
theorem of_eachIs {P : D → V → Prop} : ∀ {ds : List D} {us : List Value}, PySem.W.EachIs (fun (u : Value) (d : D) => ∃ v, RelV v u ∧ P d v) us ds → ∃ ys, Fa2 P ds ys ∧ Vals ys us
  | _, _, .nil => ⟨[], .nil, .nil⟩
  | _, _, .cons ⟨v, r1, h1⟩ t => by
    obtain ⟨ys, k1, k2⟩ := of_eachIs t
    exact ⟨v :: ys, .cons h1 k1, .cons r1 k2⟩
section
variable {X : Cx} {W : WX}
theorem reads_all {pins : List (Addr × Obj)} {σ : L2.St} {H : Hp} {s : Shared} (I : Inv X pins σ H s) : ∀ {ds : List D} {xs : List V} {us : List Value} {ps : List PyData}, Vws X.K X.mg H ds xs → toPds ds = some ps → Vals xs us → PySem.W.EachIs (fun (u : Value) (d : D) => ∃ as, Reads s.heap u (pdOf d) as) us ds
  | [], xs, us, ps, h, e, r => by
    rw [vws_nil h] at r
    cases r
    exact .nil
  | d :: ds, xs, us, ps, h, e, r => by
    obtain ⟨v, vs', rfl, h1, h2⟩ := vws_cons' h
    cases r with
    | cons r1 r2 =>
      simp only [toPds] at e
      cases q1 : toPd d with
      | none => rw [q1] at e; simp at e
      | some x =>
        cases q2 : toPds ds with
        | none => rw [q1, q2] at e; simp at e
        | some l =>
          have k := Dp.reads I x v _ (vw_pd h1 q1) r1
          have ed : pdOf d = x := by rw [pdOf, q1]; rfl
          exact .cons (by rw [ed]; exact k) (reads_all I h2 q2 r2)
theorem cr_sortedD (hu : X.A.units + 64 < cLine) : CallR X (.builtin "sorted") (rSorted X.K X.mg) := by
  intro pins s σ H vs us Q I r h
  obtain ⟨a, xs, ds, ps, P, rfl, hs, hv, hP, hp, hB, hl, q⟩ := h
  obtain ⟨its, rv, hL, hz⟩ := I.list hs
  rw [Vals.ref1 r]
  obtain ⟨hal, hB⟩ := ands hB
  obtain ⟨hk, hd⟩ := ands hB
  have em := toPds_map hp
  refine PySem.W.sorted_data (enc := pdOf) hL.isList (eachIs_of hP rv) (reads_all I hv hp rv) ?_ ?_ (le_line hl) (fun b hb => ?_) fun out ho eo => ?_
  · rw [em]
    intro d hd d' hd'
    exact (List.all_eq_true.mp ((List.all_eq_true.mp hal) d hd)) d' hd'
  · rw [em]
    rcases Bool.or_eq_true _ _ ▸ hk with k | k
    · refine .inl fun d hd => ?_
      have := (List.all_eq_true.mp k) d hd
      cases d with
      | tuple xs =>
        cases xs with
        | nil => cases this
        | cons x r => exact ⟨x, r, rfl⟩
      | _ => cases this
    · refine .inr fun d hd => ?_
      have := (List.all_eq_true.mp k) d hd
      cases d with
      | tuple xs => cases this
      | none => cases this
      | _ => exact ⟨(by intro z; cases z), fun _ z => by cases z⟩
  · have hb' : pdOf b ∈ ps := by rw [← em]; exact List.mem_map.mpr ⟨b, hb, rfl⟩
    have := of_decide_eq_true ((List.all_eq_true.mp hd) _ hb')
    omega
  · obtain ⟨ys, k1, k2⟩ := of_eachIs eo
    obtain ⟨ep, he'⟩ := PyProof.Rows.sortedAll_at s.heap its out.toArray
    have hlen : ys.length ≤ sizeLine := by
      rw [k2.length, ho]
      exact le_line hl
    refine ⟨.ref _, upd H (s.heap.objs.size + 1) (.lst ys), I.laid (t' := s.toks) (fun _ _ => PyProof.Rows.sortedAll_old) (Nat.le_succ _) ⟨hlen, out, ep, k2, by simpa using he'⟩, rfl, q _ _ k1 (I.hok.fresh (Nat.le_succ _))⟩
theorem sat_sorted {ta : TE} {a : E} (ha : Sat X W ta (evE a false)) : Sat X W (tCB (rSorted X.K X.mg) (runs [ta])) (fun rs => Res.bd (evE a false rs) fun d rs1 => sortTmp d rs1) := by
  intro rs r e sg G H ts tv fp Q hR h1 h2
  show ta sg H fun x H1 => rSorted X.K X.mg [x] H1 Q
  rcases bd_some e with ⟨d, rs1, q, e⟩ | ⟨x, rs1, q, e⟩
  · refine ha rs _ q sg G H ts tv fp _ hR (fun d' rs' er v G' H' f' st r' => ?_) (fun x rs' er => by cases er)
    cases er
    unfold sortTmp at e
    obtain ⟨xs, qx, e⟩ := ob_some e
    obtain ⟨ps, qp, e⟩ := ob_some e
    split at e
    case isFalse => cases e
    rename_i hc
    obtain ⟨hB, hl⟩ := ands hc
    cases e
    obtain ⟨G2, f2, r2, st2⟩ := r'.fz
    have vw := r2.viewT
    rw [fz_id _ (isFz_fz d)] at vw
    obtain ⟨f3, f4, k1, r3, dj, ef⟩ := r2.top
    have k1' : Rep X.K X.mg G2 H' (fz d) v (fun _ => False) := rep_iff k1 fun a => ⟨fun z => rep_emp _ (isFz_fz d) k1 a z, fun z => z.elim⟩
    cases d with
    | lst o ys =>
      have ex : xs = fzs ys := by simpa [fz, lstItems] using qx.symm
      subst ex
      simp only [fz, Rep] at k1'
      obtain ⟨a, vs, ev, hs, hr, _⟩ := k1'
      subst ev
      have hs' : SqL X.K H' a vs := by
        rcases hs with (h1 | ⟨o, h1⟩) | h1
        · exact .inl (.inl (r2.sub _ _ h1).1)
        · exact .inl (.inr ⟨o, (r2.sub _ _ h1).1⟩)
        · exact .inr h1
      have hr' : Vws X.K X.mg H' (fzs ys) vs := reps_mono (fun a o h => (r2.sub a o h).1) (fun _ _ h => h) _ (fun _ _ z => z.elim) hr
      refine ⟨a, vs, fzs ys, ps, _, rfl, hs', hr', fa2_of_reps hr, qp, hB, of_decide_eq_true hl, fun zs p hz hp => ?_⟩
      obtain ⟨f5, r5, st5⟩ := r3.newL' (p := p) (reps_of_fa2 hz) (fun _ z => z.elim) (fun _ _ _ z => z) hp
      refine h1 _ _ rfl _ _ _ f5 ((st.trans st2).trans ⟨fun a o h n => st5.keep a o h fun z => z.elim id fun w => n ((ef a).2 (.inr w)), st5.tups, fun a z => (st5.new a z).imp id (fun q => q.elim (fun w => w.elim) fun w => (ef a).2 (.inr w)), st5.grow, fun a o h => (st5.lim a o h).imp id (Or.imp id fun q => q.elim (fun w => w.elim) fun w => (ef a).2 (.inr w))⟩) r5
    | _ => cases qx
  · subst e
    exact ha rs _ q sg G H ts tv fp _ hR (fun d' rs' er => by cases er) (fun x' rs' er => by cases er; exact h2 _ _ rfl)
theorem pe_sortedD (hu : X.A.units + 64 < cLine) {a : Expr} {ta : TE} {x : Str} {p pos : Pos} (hx : x = "sorted") (gx : Gl X x ∧ (x == ("__debug__" : Str)) = false ∧ x ≠ "__name__") (mx : X.mg "sorted" = none) (hn : nst a = true) (ha : PE X a ta) : PE X (.Call (.Name x p) [a] [] pos) (tCB (rSorted X.K X.mg) (runs [ta])) := by
  subst hx
  have hs : ∀ e ∈ [a], nst e = true := fun e he => by
    simp only [List.mem_cons, List.not_mem_nil, or_false] at he
    subst he; exact hn
  exact pe_callB (cr_sortedD hu) gx.1 mx (by decide +kernel) (pa_of (.one ha) hs) gx.2.2 gx.2.1 (star_nst hn _ _) (back_nst (fun e he => hs e (List.mem_cons_of_mem _ he)) _ _)
end
end Pv

set_option maxHeartbeats 2000000
namespace Pv
open PySem PySem.Spec PyProof.Rows L2
section
variable {K : Fr} {mg : Str → Option Value} {G G' H H' H2 : Hp} {fp f1 f2 : FP} {ts : List D} {tv : List V} {rs : List D} {sg : L2.St} {v : V}
/-- an object of no value's is written -/
theorem sqT_ext {p : Addr} {o : HO} {q : Heap → Prop} (n : H p = some (.ext q)) {a : Addr} {vs : List V} (h : SqT K H a vs) : SqT K (upd H p o) a vs := by
  rcases h with (h | ⟨u, h⟩) | h
  · exact .inl (.inl (by rw [upd_ne (ne_of h n (by intro z; cases z))]; exact h))
  · exact .inl (.inr ⟨u, by rw [upd_ne (ne_of h n (by intro z; cases z))]; exact h⟩)
  · exact .inr h
theorem Step.ext2 {p : Addr} {o : HO} {q : Heap → Prop} (st : Step K G H fp G' H2 f2) (n : H p = none) (n2 : H2 p = some (.ext q)) : Step K G H fp G' (upd H2 p o) f2 :=
  ⟨fun a u e z => by rw [upd_ne (ne_of_none e n)]; exact st.keep a u e z, fun a vs h => sqT_ext n2 (st.tups a vs h), st.new, st.grow, st.lim⟩
theorem R.ext2 {p : Addr} {o : HO} {q : Heap → Prop} (r : R K mg G H ts tv rs sg fp) (n2 : H p = some (.ext q)) (g : G p = none) : R K mg G (upd H p o) ts tv rs sg fp := by
  refine r.mono (fun a vs h => sqT_ext n2 h) (fun a u ha e => ?_) (fun a u e => ?_)
  · have : a ≠ p := fun z => by
      subst z
      rcases r.there a ha with ⟨_, q⟩ | ⟨_, _, _, q⟩ <;> (rw [n2] at q; cases q)
    rw [upd_ne this]; exact e
  · have : a ≠ p := fun z => by subst z; rw [g] at e; cases e
    rw [upd_ne this]; exact (r.sub a u e).1
/-- what a step leaves of such an object -/
theorem Step.ext3 {p : Addr} {q : Heap → Prop} (r : R K mg G H ts tv rs sg fp) (st : Step K G H fp G' H' f2) (n2 : H p = some (.ext q)) (g : G p = none) : H' p = some (.ext q) ∧ G' p = none := by
  have np : ¬ fp p := fun z => by rcases r.there p z with ⟨_, q⟩ | ⟨_, _, _, q⟩ <;> (rw [n2] at q; cases q)
  refine ⟨st.keep p _ n2 np, ?_⟩
  cases e : G' p with
  | none => rfl
  | some u =>
    rcases st.lim p u e with z | z | z
    · rw [g] at z; cases z
    · rw [n2] at z; cases z
    · exact absurd z np
theorem keyD_rep {y : D} {k : List Int} {fp : FP} (h : Rep K mg G H y v fp) (e : keyD y = some k) : ∃ t, v = .ref t ∧ SqT K H t (k.map V.int) := by
  cases y with
  | tup xs =>
    simp only [Rep] at h
    obtain ⟨a, vs, ev, hs, hr⟩ := h
    have key : ∀ {xs : List D} {vs : List V} {f : FP} {k : List Int}, Reps K mg G H xs vs f → intsD xs = some k → vs = k.map V.int := by
      intro xs
      induction xs with
      | nil =>
        intro vs f k h e
        cases e
        cases vs with
        | nil => rfl
        | cons _ _ => simp only [Reps] at h
      | cons x xs ih =>
        intro vs f k h e
        cases vs with
        | nil => simp only [Reps] at h
        | cons v vs =>
          simp only [Reps] at h
          obtain ⟨g1, g2, k1, k2, _⟩ := h
          cases x with
          | int i =>
            simp only [intsD] at e
            obtain ⟨l, el, rfl⟩ := Option.map_eq_some_iff.mp e
            simp only [Rep] at k1
            rw [k1.1, ih k2 el]; rfl
          | _ => cases e
    exact ⟨a, ev, by rw [← key hr e]; exact hs⟩
  | _ => cases e
end
section
variable {X : Cx} {W : WX}
theorem sat_lenset {wi : TI} {ei : List D → Option (Res (List D))} {t : Tg} {own : List Nat} {cd el : List D → Option (Res D)} (ht : tgIn own t = true) (hi : SatI X W wi ei) :
    Sat X W (tLenSct X.prog X.w (tSct X.prog X.w X.K wi (gtOf X.K t) (tEvB X.K X.mg cd) (tEvE X.K X.mg el) own)) (lsD t own ei cd el) := by
  intro rs r e sg G H ts tv fp Q hR h1 h2
  unfold lsD at e
  rcases bd_some e with ⟨ds, rs1, q, e⟩ | ⟨x, rs1, q, e⟩
  · refine hi rs _ q sg G H ts tv fp _ hR (fun ds' rs' er J G1 H1 f1 st1 R1 ok => ?_) (fun x rs' er => by cases er)
    cases er
    split at e
    case h_2 => cases e
    rename_i p ep
    cases e
    intro D hD
    have st2 : Step X.K G1 H1 f1 G1 (upd H1 D (SetTO X.prog X.w D [])) f1 := .alloc hD fun a z => .inl z
    have gD : G1 D = none := by
      cases e : G1 D with
      | none => rfl
      | some u => have := (R1.sub D u e).1; rw [hD] at this; cases this
    have R2 : R X.K X.mg G1 (upd H1 D (SetTO X.prog X.w D [])) ts tv rs1 sg f1 := R1.mono st2.tups (fun a o _ h => by rw [upd_ne (ne_of_none h hD)]; exact h) fun a o h => by
      have := (R1.sub a o h).1
      rw [upd_ne (ne_of_none this hD)]; exact this
    obtain ⟨f3, R3, st3⟩ := R2.wipes (own := own)
    have st23 := st2.trans st3
    refine ⟨fun i m H' => m = ds.length - i ∧ i ≤ ds.length ∧ ∃ rs' acc L G' fp', lsL (tgA [] t) own cd el (ds.drop i) rs' acc = some p ∧ Step X.K G1 H1 f1 G' H' fp' ∧ R X.K X.mg G' H' ts tv rs' (wipe sg own) fp' ∧ H' D = some (SetTO X.prog X.w D L) ∧ G' D = none ∧ (∀ p ∈ L, SqT X.K H' p.1 (p.2.map V.int)) ∧ (L.map (·.2)).Perm acc,
      ⟨ds.length, by simp, Nat.zero_le _, _, [], [], _, f3, by simpa using ep, st23, R3, upd_same, gD, (fun _ h => by cases h), by simp⟩, ?_⟩
    rintro i m H2 ⟨rfl, hil, rs2, acc, L, G2, f2, e2, st2, R2, hD2, gD2, hL2, pm2⟩
    have gh : ∀ a o, G1 a = some o → H2 a = some o := fun a o h => (R2.sub a o (st2.grow a o h)).1
    by_cases hlt : i < ds.length
    · obtain ⟨d, hd⟩ : ∃ d, ds[i]? = some d := ⟨_, List.getElem?_eq_getElem hlt⟩
      rw [drop_cons hd] at e2
      refine .inr ⟨ok.go i H2 hlt gh st2.tups, fun H' => ∃ rs' acc L G' fp', lsL (tgA [] t) own cd el (ds.drop (i + 1)) rs' acc = some p ∧ Step X.K G1 H1 f1 G' H' fp' ∧ R X.K X.mg G' H' ts tv rs' (wipe sg own) fp' ∧ H' D = some (SetTO X.prog X.w D L) ∧ G' D = none ∧ (∀ p ∈ L, SqT X.K H' p.1 (p.2.map V.int)) ∧ (L.map (·.2)).Perm acc,
        fun H' h => ⟨ds.length - (i + 1), by omega, rfl, hlt, h⟩, fun x H3 hy => ?_⟩
      obtain ⟨hx, hrep⟩ := ok.yld i H2 x H3 d hd gh st2.tups hy
      have st3 : Step X.K G2 H2 f2 G2 H3 f2 := .ext hx
      have R3 := R2.mono st3.tups (fun a o _ h => hx a o h) fun a o h => hx a o (R2.sub a o h).1
      have rp : Rep X.K X.mg G2 H3 d x (fun _ => False) := rep_mono st2.grow (fun _ _ h => h) d (fun _ _ z => z.elim) hrep
      have R4 := R3.pushE rp
      obtain ⟨hD3, gD3⟩ := st3.ext3 R2 hD2 gD2
      simp only [lsL] at e2
      split at e2
      case h_2 => cases e2
      rename_i rs3 q3
      refine satG_of (io := others own rs2.length) X.K (X := X) rfl d rs2 rs3 (tgA_io ht q3) x (wipe sg own) G2 H3 _ _ f2 _ R4 fun sg4 H4 f4 st4 kp4 R5 => ?_
      have we : wipe sg4 own = wipe sg own := by
        have hl : sg4.length = (wipe sg own).length := by
          have l1 := R5.len
          have l2 := R4.len
          have l3 : rs3.length = rs2.length := by
            have : ∀ {is : List Nat} {ds rs rs' : List Pv.D}, setAll [] is ds rs = some rs' → rs'.length = rs.length := by
              intro is
              induction is with
              | nil => intro ds rs rs' e; cases ds <;> first | (cases e; rfl) | cases e
              | cons i is ih =>
                intro ds rs rs' e
                cases ds with
                | nil => cases e
                | cons d ds =>
                  simp only [setAll] at e
                  split at e
                  · rw [ih e, List.length_set]
                  · cases e
            cases t with
            | nm i =>
              simp only [tgA] at q3
              split at q3
              · cases q3; rw [List.length_set]
              · cases q3
            | tp is =>
              cases d <;> first | (cases q3; done) | skip
              exact this q3
          omega
        have e1 : wipe sg4 own = wipe (wipe sg own) own := wipe_eq hl fun k hk ho => kp4 k (by
          unfold others
          rw [List.mem_filter]
          have l2 := R4.len
          exact ⟨List.mem_range.mpr (by omega), by simpa [List.contains_eq_mem] using ho⟩)
        rw [e1]
        refine wipe_eq (wipe_length _ _) fun k hk ho => wipe_out ho
      refine ⟨we, ?_⟩
      obtain ⟨hD4, gD4⟩ := st4.ext3 R4 hD3 gD3
      split at e2
      · rename_i rs5 q5
        split at e2
        case h_2 => cases e2
        rename_i y rs6 q6
        split at e2
        case h_2 => cases e2
        rename_i k qk
        split at e2
        case isFalse => cases e2
        rename_i hlen
        refine ⟨rs3, true, rs5, _, _, _, _, q5, R5, fun G5 H5 f5 st5 R6 => ?_⟩
        simp only [if_true]
        obtain ⟨hD5, gD5⟩ := st5.ext3 R5 hD4 gD4
        refine ⟨rs5, y, rs6, _, _, _, _, q6, R6, fun yv G6 H6 f6 st6 R7 => ?_⟩
        obtain ⟨hD6, gD6⟩ := st6.ext3 R6 hD5 gD5
        obtain ⟨g1, g2, k1, _, _, _⟩ := R7.top
        obtain ⟨tb, etb, htb⟩ := keyD_rep k1 qk
        obtain ⟨f7, R8, st7⟩ := R7.drop
        obtain ⟨f8, R9, st8⟩ := R8.wipes (own := own)
        rw [we] at R9
        have sAll := (((((st2.trans st3).trans st4).trans st5).trans st6).trans st7).trans st8
        have s26 := (((st3.trans st4).trans st5).trans st6)
        have hL6 : ∀ p ∈ L, SqT X.K H6 p.1 (p.2.map V.int) := fun p hp => s26.tups _ _ (hL2 p hp)
        have ll : L.length = acc.length := by rw [← pm2.length_eq, List.length_map]
        refine ⟨tb, k, L, etb, hD6, htb, hL6, by omega, fun L' c1 c2 => ⟨_, _, L', G6, f8, e2, sAll.ext2 hD hD6, R9.ext2 hD6 gD6, upd_same, gD6, fun p hp => ?_, ?_⟩⟩
        · by_cases hk : k ∈ L.map (·.2)
          · rw [c1 hk] at hp
            exact sqT_ext hD6 (hL6 p hp)
          · rcases List.mem_cons.mp ((c2 hk).mem_iff.mp hp) with z | z
            · rw [z]; exact sqT_ext hD6 htb
            · exact sqT_ext hD6 (hL6 p z)
        · by_cases hk : k ∈ L.map (·.2)
          · rw [c1 hk]
            have : acc.contains k = true := by
              rw [List.contains_iff_mem]
              exact pm2.mem_iff.mp hk
            rw [if_pos this]
            exact pm2
          · have : ¬ acc.contains k = true := by
              rw [List.contains_iff_mem]
              exact fun z => hk (pm2.mem_iff.mpr z)
            rw [if_neg this]
            refine ((c2 hk).map (·.2)).trans ?_
            rw [List.map_cons]
            exact (pm2.cons k).trans (List.perm_append_singleton k acc).symm
      · rename_i rs5 q5
        refine ⟨rs3, false, rs5, _, _, _, _, q5, R5, fun G5 H5 f5 st5 R6 => ?_⟩
        simp only [Bool.false_eq_true, if_false]
        obtain ⟨hD5, gD5⟩ := st5.ext3 R5 hD4 gD4
        obtain ⟨f8, R9, st8⟩ := R6.wipes (own := own)
        rw [we] at R9
        exact ⟨_, _, L, _, f8, e2, (((st2.trans st3).trans st4).trans st5).trans st8, R9, hD5, gD5, fun p hp => ((st3.trans st4).trans st5).tups _ _ (hL2 p hp), pm2⟩
      · cases e2
    · have ei' : i = ds.length := by omega
      subst ei'
      rw [List.drop_length] at e2
      cases e2
      obtain ⟨f9, R9, st9⟩ := R2.unwipes
      refine .inl ⟨ok.stop _ H2 (Nat.le_refl _) gh st2.tups, D, L, rfl, hD2, ?_⟩
      have ll : L.length = acc.length := by rw [← pm2.length_eq, List.length_map]
      rw [ll]
      exact h1 _ _ rfl _ _ _ f9 ((st1.trans st2).trans st9) (R9.pushE rep_int)
  · subst e
    exact hi rs _ q sg G H ts tv fp _ hR (fun d' rs' er => by cases er) (fun x' rs' er => by cases er; exact h2 _ _ rfl)
end
end Pv

set_option maxHeartbeats 2000000
namespace Pv
open PySem PySem.Spec PyProof.Rows L2
section
variable {X : Cx} {W : WX} {c : Ce} {km : Nat} {io : List Nat}
theorem Good.loc (g : Good X W c km) {i : Nat} {x : Str} (h : nmB c i x = true) : X.N[i]? = some x ∧ Loc X.env.scope x ∧ (X.fn x = true ∨ X.env.scope.names.lookup x = some .local) := by
  obtain ⟨h1, h2⟩ := ands h
  refine ⟨by rw [g.N]; exact of_decide_eq_true h1, ?_⟩
  unfold locB at h2
  rw [g.sc]
  unfold L2.Loc
  split at h2
  · rename_i q; exact ⟨.inl q, .inr q⟩
  · rename_i q; exact ⟨.inr q, .inl (g.fn x h2)⟩
  · cases h2
theorem pg_nm (g : Good X W c km) {i : Nat} {x : Str} {pos : Pos} (h : nmB c i x = true) : PG X (.Name x pos) (gName i) := by
  obtain ⟨h1, h2, h3⟩ := g.loc h
  exact pg_name g.fine.nd h1 h2 h3
theorem pgs_ns (g : Good X W c km) : ∀ {is : List Nat} {es : List Expr}, chkNs c is es = true → PGs X es (gNames is) ∧ (assignEach es X.env).length = is.length ∧ (assignEach es X.env).findIdx? (·.1) = none
  | [], [], _ => ⟨pgs_nil, rfl, rfl⟩
  | i :: is, .Name x p :: es, h => by
    obtain ⟨h1, h2⟩ := ands h
    obtain ⟨q1, q2, q3⟩ := pgs_ns g h2
    refine ⟨pgs_cons (pg_nm g h1) q1 rfl, ?_, ?_⟩
    · show (assignEach es X.env).length + 1 = _
      rw [q2]; rfl
    · show ((false, assign (.Name x p) X.env) :: assignEach es X.env).findIdx? (·.1) = none
      rw [List.findIdx?_cons]
      simp only [Bool.false_eq_true, if_false]
      rw [q3]; rfl
  | [], _ :: _, h => by simp [chkNs] at h
  | _ :: _, [], h => by simp [chkNs] at h
theorem pg_of (g : Good X W c km) {t : Tg} {tg : Expr} (h : chkTg c t tg = true) : ∃ gt, PG X tg gt ∧ SatG X io gt (tgA io t) := by
  cases t with
  | nm i =>
    cases tg <;> first | (cases h; done) | skip
    exact ⟨_, pg_nm g h, satG_nm⟩
  | tp is =>
    cases tg <;> first | (cases h; done) | skip
    rename_i es k pos
    obtain ⟨q1, q2, q3⟩ := pgs_ns g (show chkNs c is es = true from h)
    exact ⟨_, pg_tup g.fine.calm q1 q2 q3, satG_tp⟩
theorem pg_gt (g : Good X W c km) {t : Tg} {tg : Expr} (h : chkTg c t tg = true) : PG X tg (gtOf X.K t) := by
  cases t with
  | nm i =>
    cases tg <;> first | (cases h; done) | skip
    exact pg_nm g h
  | tp is =>
    cases tg <;> first | (cases h; done) | skip
    rename_i es k pos
    obtain ⟨q1, q2, q3⟩ := pgs_ns g (show chkNs c is es = true from h)
    exact pg_tup g.fine.calm q1 q2 q3
theorem ownP_snd (N : List Str) : ∀ own : List Nat, (ownP N own).map (·.2) = own
  | [] => rfl
  | i :: own => by simp only [ownP, List.map_cons, ownP_snd N own]
theorem Good.blk (g : Good X W c km) {s : Shared} {H : Hp} {scope : Scope} {cl : List (Str × Addr)} {C : Addr} {fp : List Addr} : Good (X.blk s H scope (compEnvC scope cl C X.env) fp) WF (c.blk scope) km where
  fine := ⟨g.fine.calm, g.fine.nd, g.fine.seer, g.fine.tree, g.fine.head, g.fine.depth, g.fine.units⟩
  tk := fun u s' ⟨_, _, _, _, _, _, _, _, _, _, _, _, _, _, _, _, w⟩ => w.elim
  room := g.room
  N := g.N
  sc := by
    show relabel scope X.env = relS scope c.sc
    rw [← g.sc]
    rfl
  fn := fun x h => h
theorem pts_nilE : PTs X [] (tEvB X.K X.mg (evAnd .nil)) := ⟨fun pins s σ H Q I ⟨rs, b, rs', G, ts, tv, fp, e, hR, hp⟩ => by
  simp only [evAnd] at e
  cases e
  exact pts_nil.run pins s σ H Q I (hp G H fp .refl hR)⟩
theorem pts_oneE {x : Expr} {tt : TT} {a : E} (p : PT X x tt) (st : SatT X WF tt (evT a)) : PTs X [x] (tEvB X.K X.mg (evAnd (.cons a .nil))) := ⟨fun pins s σ H Q I ⟨rs, b, rs', G, ts, tv, fp, e, hR, hp⟩ => by
  have e2 : evT a rs = some (.ok b rs') := by
    simp only [evAnd] at e
    unfold evT
    rcases bd_some e with ⟨d, rs1, q, e⟩ | ⟨x, rs1, q, e⟩
    · rw [q]
      obtain ⟨k, ek, e⟩ := ob_some e
      have ed : d = .bl k := by cases d <;> first | (cases ek; done) | (cases ek; rfl)
      subst ed
      cases k
      · cases e; rfl
      · cases e; rfl
    · cases e
  exact (pts_one p).run pins s σ H Q I (st rs _ e2 σ G H ts tv fp Q hR (fun b' rs1 er => by cases er; exact hp) (fun x rs1 er => by cases er))⟩
theorem SatI.congr {wi : TI} {ev ev' : List D → Option (Res (List D))} (h : SatI X W wi ev) (e : ∀ rs, ev' rs = ev rs) : SatI X W wi ev' :=
  fun rs r q => h rs r (by rw [← e]; exact q)
theorem Sat.congr' {t : TE} {ev ev' : List D → Option (Res D)} (h : Sat X W t ev) (e : ∀ rs, ev' rs = ev rs) : Sat X W t ev' :=
  fun rs r q => h rs r (by rw [← e]; exact q)
/-- what an expression of the text is as a test by its value -/
def byVal : Expr → Bool
  | .UnaryOp .Not _ _ => false
  | .BoolOp _ _ _ => false
  | .IfExp _ _ _ _ => false
  | .Compare _ _ _ _ => false
  | _ => true
theorem pt_byVal {e : Expr} {t : TE} (h : PE X e t) (hb : byVal e = true) : PT X e (fun sg H Q => t sg H fun x H' => ∃ k, TruV X.K x H' k ∧ Q k H') :=
  pt_truth h fun whole => by
    cases e with
    | UnaryOp o a p => cases o <;> first | rfl | cases hb
    | BoolOp _ _ _ => cases hb
    | IfExp _ _ _ _ => cases hb
    | Compare _ _ _ _ => cases hb
    | _ => rfl

/-- all there is to say of an expression -/
structure All (X : Cx) (W : WX) (e : Expr) (m : E) : Prop where
  se : SE X W e m
  sp : SP X e m
  st : tok m = true → ST X W e m
  spt : pok m = true → SPT X e m
structure AllL (X : Cx) (W : WX) (es : List Expr) (as : Es) : Prop where
  nst : ∀ e ∈ es, nst e = true
  exA : ∃ tes, PEs X es tes ∧ SatA X W tes (evA as)
  exV : ∃ tes, PEs X es tes ∧ ∀ mv, SatV X W tes (evV as mv)
  exP : ∃ tes, PEs X es tes ∧ SatPs X tes (evPs as)
  land : nempty es = true → ∀ pos, ∃ t, PE X (.BoolOp .And es pos) t ∧ Sat X W t (evAnd as)
  lor : nempty es = true → ∀ pos, ∃ t, PE X (.BoolOp .Or es pos) t ∧ Sat X W t (evOr as)
  landT : nempty es = true → toks as = true → ∀ pos, ∃ t, PW X (.BoolOp .And es pos) t ∧ SatT X W t (evTA as)
  lorT : nempty es = true → toks as = true → ∀ pos, ∃ t, PW X (.BoolOp .Or es pos) t ∧ SatT X W t (evTO as)
/-- from a value to a test -/
theorem all_val {e : Expr} {m : E} (h1 : SE X W e m) (h2 : SP X e m) (hb : byVal e = true) : All X W e m :=
  ⟨h1, h2, fun _ => by
    obtain ⟨t, p, s, _⟩ := h1.ex
    exact ⟨_, pt_byVal p hb, satT_of (s false)⟩, fun _ => by
    obtain ⟨t, p, s⟩ := h2.ex
    exact ⟨_, pt_byVal p hb, satPT_of s⟩⟩
theorem se_mk {e : Expr} {m : E} {t : TE} (h : PE X e t) (hs : ∀ mv, Sat X W t (evE m mv)) (hn : slotOf m = none) : SE X W e m := ⟨t, h, hs, fun s q => by rw [hn] at q; cases q⟩
theorem sp_none {e : Expr} {m : E} {t : TE} (h : PE X e t) (hn : ∀ rs, evP m rs = none) : SP X e m := ⟨t, h, .none hn⟩
theorem chn_marks {p q : P2} {o1 o2 : CmpOp} (h1 : cmpB p o1 = true) (h2 : cmpB q o2 = true) (m r : Expr) : lastMarks [o1, o2] [m, r] = false := by
  obtain ⟨_, a1, a2⟩ := cmp_of h1
  obtain ⟨_, b1, b2⟩ := cmp_of h2
  exact nobehind r b1 b2
mutual
/-- THE EXPRESSIONS -/
theorem allE : ∀ (m : E) {X : Cx} {W : WX} {c : Ce} {km : Nat} (g : Good X W c km) (e : Expr), chkE c m e = true → OkE (gvOf X) km m → All X W e m
  | .var i, X, W, c, km, g, e, hc, ho => by
    cases e <;> first | (cases hc; done) | skip
    rename_i x pos
    have hp := g.pv (pos := pos) hc
    exact all_val ⟨_, hp, sat_var, fun s q => by cases q; rfl⟩ ⟨_, hp, satP_var⟩ rfl
  | .mv i, X, W, c, km, g, e, hc, ho => by
    cases e <;> first | (cases hc; done) | skip
    rename_i x pos
    have hp := g.pv (pos := pos) hc
    exact all_val (se_mk hp (fun mv => (sat_var (s := i) true).congr' fun rs => by simp only [evE]) rfl) (sp_none hp fun _ => rfl) rfl
  | .con d, X, W, c, km, g, e, hc, ho => by
    cases e <;> first | (cases hc; done) | skip
    rename_i k n pos
    obtain ⟨t, v, hp, hr, ht⟩ := con_of (X := X) (n := n) (pos := pos) hc
    exact all_val (se_mk hp (fun mv => sat_push hr ht) rfl) ⟨_, hp, satP_push hr ht⟩ rfl
  | .glo x d, X, W, c, km, g, e, hc, ho => by
    cases e <;> first | (cases hc; done) | skip
    rename_i y pos
    obtain ⟨h1, h2⟩ := ands hc
    obtain ⟨gl, dbg, nm⟩ := g.gl h2
    have ho : GlHas (gvOf X) x d := ho
    obtain ⟨v, u, hm, rv, hr⟩ := ho.ex
    have hx : x = y := of_decide_eq_true h1
    subst hx
    have hp : PE X (.Name x pos) (tC v) := pe_glob gl hm rv dbg
    exact all_val (se_mk hp (fun mv => sat_push hr fun _ _ _ q => q) rfl) ⟨_, hp, satP_push hr fun _ _ _ q => q⟩ rfl
  | .op2 p a b, X, W, c, km, g, e, hc, ho => by
    cases e <;> first | (cases hc; done) | skip
    · rename_i l o r pos
      obtain ⟨h1, h2⟩ := ands hc
      obtain ⟨h2, h3⟩ := ands h2
      have A := allE a g l h2 ho.1
      have B := allE b g r h3 ho.2
      obtain ⟨ta, pa, oa⟩ := A.se.opd
      obtain ⟨tb, pb, ob⟩ := B.se.opd
      obtain ⟨ua, qa, sa⟩ := A.sp.ex
      obtain ⟨ub, qb, sb⟩ := B.sp.ex
      exact all_val (se_mk (pe_bin g.fine h1 pa pb) (fun mv => sat_op2 oa ob) rfl) ⟨_, pe_bin g.fine h1 qa qb, satP_op2 sa sb⟩ rfl
    · rename_i l os rs' pos
      cases os with
      | nil => cases hc
      | cons o os =>
        cases os with
        | cons _ _ => cases hc
        | nil =>
          cases rs' with
          | nil => cases hc
          | cons r rs' =>
            cases rs' with
            | cons _ _ => cases hc
            | nil =>
              obtain ⟨h1, h2⟩ := ands hc
              obtain ⟨h2, h3⟩ := ands h2
              have A := allE a g l h2 ho.1
              have B := allE b g r h3 ho.2
              obtain ⟨ta, pa, oa⟩ := A.se.opd
              obtain ⟨tb, pb, ob⟩ := B.se.opd
              obtain ⟨ua, qa, sa⟩ := A.sp.ex
              obtain ⟨ub, qb, sb⟩ := B.sp.ex
              refine ⟨se_mk (pe_cmp2 g.fine h1 pa pb) (fun mv => sat_op2 oa ob) rfl, ⟨_, pe_cmp2 g.fine h1 qa qb, satP_op2 sa sb⟩, fun _ => ⟨_, pt_cmp2 g.fine h1 pa pb, satT_bl (sat_op2 oa ob) fun rs d rs' e => ?_⟩, fun _ => ⟨_, pt_cmp2 g.fine h1 qa qb, satPT_bl (satP_op2 sa sb) fun rs d e => ?_⟩⟩
              · simp only [evE] at e
                obtain ⟨ds, e1, _⟩ := satOp_inv e
                match ds, e1 with
                | [x, y], e1 => exact cmp_bl h1 e1
              · simp only [evP] at e
                obtain ⟨x, ex, e⟩ := ob_some e
                obtain ⟨y, ey, e⟩ := ob_some e
                exact cmp_bl h1 (scOnly_some e).1
  | .neg a, X, W, c, km, g, e, hc, ho => by
    cases e <;> first | (cases hc; done) | skip
    rename_i o x pos
    cases o <;> first | (cases hc; done) | skip
    have A := allE a g x hc ho
    obtain ⟨ta, pa, oa⟩ := A.se.opd
    obtain ⟨ua, qa, sa⟩ := A.sp.ex
    exact all_val (se_mk (pe_neg pa) (fun mv => sat_neg oa) rfl) ⟨_, pe_neg qa, satP_neg sa⟩ rfl
  | .lnot a, X, W, c, km, g, e, hc, ho => by
    cases e <;> first | (cases hc; done) | skip
    rename_i o x pos
    cases o <;> first | (cases hc; done) | skip
    have A := allE a g x hc ho
    obtain ⟨ta, pa, oa, _⟩ := A.se.ex
    have hp : PE X (.UnaryOp .Not x pos) (tNotV ta) := pe_not pa
    refine ⟨se_mk hp (fun mv => ?_) rfl, sp_none hp fun _ => rfl, fun h => ?_, fun h => by cases h⟩
    · show Sat X W (tNotV ta) (fun rs => Res.bd (evE a false rs) fun d rs1 => ob (asBl d) fun b => some (.ok (.bl (!b)) rs1))
      exact sat_bl (oa false) (fun _ => rfl) (fun b => .bl (!b)) (fun b G H => rep_bl) fun sg H Q h => h
    · obtain ⟨tt, pt, st⟩ := (A.st h).ex
      exact ⟨_, pt_not pt, satT_not st⟩
  | .land as, X, W, c, km, g, e, hc, ho => by
    cases e <;> first | (cases hc; done) | skip
    rename_i o es pos
    cases o <;> first | (cases hc; done) | skip
    obtain ⟨h1, h2⟩ := ands hc
    have L := allL as g es h2 ho
    obtain ⟨t, p, s⟩ := L.land h1 pos
    refine ⟨se_mk p (fun mv => s) rfl, sp_none p fun _ => rfl, fun h => ?_, fun h => by cases h⟩
    obtain ⟨tt, pt, st⟩ := L.landT h1 h pos
    exact ⟨tt, pt.pt, by rw [evTA_eq]; exact st⟩
  | .lor as, X, W, c, km, g, e, hc, ho => by
    cases e <;> first | (cases hc; done) | skip
    rename_i o es pos
    cases o <;> first | (cases hc; done) | skip
    obtain ⟨h1, h2⟩ := ands hc
    have L := allL as g es h2 ho
    obtain ⟨t, p, s⟩ := L.lor h1 pos
    refine ⟨se_mk p (fun mv => s) rfl, sp_none p fun _ => rfl, fun h => ?_, fun h => by cases h⟩
    obtain ⟨tt, pt, st⟩ := L.lorT h1 h pos
    exact ⟨tt, pt.pt, by rw [evTO_eq]; exact st⟩
  | .ite t a b, X, W, c, km, g, e, hc, ho => by
    cases e <;> first | (cases hc; done) | skip
    rename_i x y z pos
    obtain ⟨h1, h2⟩ := ands hc
    obtain ⟨h1', h1⟩ := ands h1
    obtain ⟨h2, h3⟩ := ands h2
    obtain ⟨tt, pt, st⟩ := ((allE t g x h1 ho.1).st h1').ex
    obtain ⟨ta, pa, sa, _⟩ := (allE a g y h2 ho.2.1).se.ex
    obtain ⟨tb, pb, sb, _⟩ := (allE b g z h3 ho.2.2).se.ex
    have hp : PE X (.IfExp x y z pos) (tIf tt ta tb) := pe_ifExp pt pa pb
    exact ⟨se_mk hp (fun mv => sat_ite st sa sb mv) rfl, sp_none hp fun _ => rfl, (fun h => by cases h), fun h => by cases h⟩
  | .chn p q a b d, X, W, c, km, g, e, hc, ho => by
    cases e <;> first | (cases hc; done) | skip
    rename_i l os rs' pos
    match os, rs', hc with
    | [o1, o2], [m, r], hc =>
      obtain ⟨h1, h2⟩ := ands hc
      obtain ⟨h1, h1'⟩ := ands h1
      obtain ⟨h2, h3⟩ := ands h2
      obtain ⟨h3, h4⟩ := ands h3
      obtain ⟨ta, pa, sa⟩ := (allE a g l h2 ho.1).sp.ex
      obtain ⟨tb, pb, sb⟩ := (allE b g m h3 ho.2.1).sp.ex
      obtain ⟨tc, pc, sc⟩ := (allE d g r h4 ho.2.2).sp.ex
      have o1' : OpR X (compareOp o1) (rD2 X p) := by rw [← (cmp_of h1).1]; exact doesR g.fine p
      have o2' : OpR X (compareOp o2) (rD2 X q) := by rw [← (cmp_of h1').1]; exact doesR g.fine q
      have hl := chn_marks h1 h1' m r
      have hp : PE X (.Compare l [o1, o2] [m, r] pos) _ := pe_chain o1' o2' pa pb pc hl
      exact ⟨se_mk hp (fun mv => sat_chn sa sb sc mv) rfl, sp_none hp fun _ => rfl, fun _ => ⟨_, pt_chain o1' o2' pa pb pc hl, satT_bl (sat_chn sa sb sc false) fun rs d rs' e => chn_bl e⟩, fun h => by cases h⟩
  | .fnc p as, X, W, c, km, g, e, hc, ho => by
    cases e <;> first | (cases hc; done) | skip
    rename_i f es kws pos
    cases f <;> first | (cases hc; done) | skip
    rename_i x q
    cases kws with
    | cons _ _ => cases hc
    | nil =>
      obtain ⟨h1, h2⟩ := ands hc
      obtain ⟨h1, h1'⟩ := ands h1
      obtain ⟨h2, h3⟩ := ands h2
      have L := allL as g es h3 ho.2
      obtain ⟨tes, ps, sa⟩ := L.exA
      obtain ⟨tes', ps', sp⟩ := L.exP
      obtain ⟨gl, dbg, nm⟩ := g.gl h1'
      have hp := pe_fnc g.fine (q := q) (pos := pos) ho.1 (of_decide_eq_true h1) gl nm dbg h2 ps L.nst
      have hp' := pe_fnc g.fine (q := q) (pos := pos) ho.1 (of_decide_eq_true h1) gl nm dbg h2 ps' L.nst
      exact all_val (se_mk hp (fun mv => sat_fnc sa) rfl) ⟨_, hp', satP_fnc sp⟩ rfl
  | .isi a T, X, W, c, km, g, e, hc, ho => by
    cases e <;> first | (cases hc; done) | skip
    rename_i f es kws pos
    cases f <;> first | (cases hc; done) | skip
    rename_i x q
    match es, kws, hc with
    | [e, .Name y q2], [], hc =>
      obtain ⟨h1, h2⟩ := ands hc
      obtain ⟨h1, h3⟩ := ands h1
      obtain ⟨h1, h1'⟩ := ands h1
      obtain ⟨h3, h4⟩ := ands h3
      obtain ⟨h3, h3'⟩ := ands h3
      obtain ⟨h2, h5⟩ := ands h2
      have A := allE a g e h5 ho.2
      obtain ⟨ta, pa, oa⟩ := A.se.opd
      obtain ⟨ua, qa, sa⟩ := A.sp.ex
      exact all_val (se_mk (pe_isi (of_decide_eq_true h1) (of_decide_eq_true h3) h4 (g.gl h1') (g.gl h3') ho.1.1 ho.1.2 h2 pa) (fun mv => sat_isi oa) rfl) ⟨_, pe_isi (of_decide_eq_true h1) (of_decide_eq_true h3) h4 (g.gl h1') (g.gl h3') ho.1.1 ho.1.2 h2 qa, satP_isi sa⟩ rfl
  | .call f fn as, X, W, c, km, g, e, hc, ho => by
    cases e <;> first | (cases hc; done) | skip
    rename_i f' es kws pos
    cases f' <;> first | (cases hc; done) | skip
    rename_i x q
    cases kws with
    | cons _ _ => cases hc
    | nil =>
      obtain ⟨h1, h2⟩ := ands hc
      obtain ⟨h1, h1'⟩ := ands h1
      obtain ⟨h2, h3⟩ := ands h2
      have L := allL as g es h3 ho.2
      obtain ⟨tes, ps, sa⟩ := L.exA
      obtain ⟨gl, dbg, nm⟩ := g.gl h1'
      have hx : x = f := of_decide_eq_true h1
      subst hx
      have hp := pe_callF g (q := q) (pos := pos) ho.1 gl dbg h2 ps L.nst
      exact all_val (se_mk hp (fun mv => sat_call sa) rfl) (sp_none hp fun _ => rfl) rfl
  | .tup as, X, W, c, km, g, e, hc, ho => by
    cases e <;> first | (cases hc; done) | skip
    rename_i es k pos
    have L := allL as g es hc ho
    obtain ⟨tes, ps, sv⟩ := L.exV
    have hp : PE X (.Tuple es k pos) (tTup (runs tes)) := pe_tup (pa_of ps L.nst)
    exact all_val (se_mk hp (fun mv => sat_tup (sv mv)) rfl) (sp_none hp fun _ => rfl) rfl
  | .lst as, X, W, c, km, g, e, hc, ho => by
    cases e <;> first | (cases hc; done) | skip
    rename_i es pos
    have L := allL as g es hc ho
    obtain ⟨tes, ps, sv⟩ := L.exV
    have hp : PE X (.List es pos) (tLst (runs tes)) := pe_lst (pa_of ps L.nst)
    exact all_val (se_mk hp (fun mv => sat_lst (sv mv)) rfl) (sp_none hp fun _ => rfl) rfl
  | .ix a i, X, W, c, km, g, e, hc, ho => by
    cases e <;> first | (cases hc; done) | skip
    rename_i x y pos
    obtain ⟨h1, h2⟩ := ands hc
    obtain ⟨h2, h3⟩ := ands h2
    have A := allE a g x h2 ho.1
    have B := allE i g y h3 ho.2
    obtain ⟨ta, pa, oa⟩ := A.se.opd
    obtain ⟨tb, pb, sb, _⟩ := B.se.ex
    obtain ⟨ua, qa, sa⟩ := A.sp.ex
    obtain ⟨ub, qb, sb'⟩ := B.sp.ex
    exact all_val (se_mk (pe_ix ix_seq pa pb (plain_nsl h1)) (fun mv => sat_ix oa (sb false) mv) rfl) ⟨_, pe_ix ix_seq qa qb (plain_nsl h1), satP_ix sa sb'⟩ rfl
  | .pk a, X, W, c, km, g, e, hc, ho => by
    have A := allE a g e (by simpa only [chkE] using hc) ho
    obtain ⟨ua, qa, sa⟩ := A.sp.ex
    refine ⟨se_mk qa (fun mv => sat_pk sa mv) rfl, sp_none qa fun _ => rfl, fun h => ?_, fun h => by cases h⟩
    obtain ⟨tt, pt, st⟩ := (A.spt h).ex
    exact ⟨tt, pt, satT_pk st⟩
  | .cpy a, X, W, c, km, g, e, hc, ho => by
    cases e <;> first | (cases hc; done) | skip
    rename_i f es kws pos
    cases f <;> first | (cases hc; done) | skip
    rename_i x q
    match es, kws, hc with
    | [e], [], hc =>
      obtain ⟨h1, h2⟩ := ands hc
      obtain ⟨h1, h1'⟩ := ands h1
      obtain ⟨h2, h3⟩ := ands h2
      have A := allE a g e h3 ho.2
      obtain ⟨ta, pa, oa⟩ := A.se.opd
      have hp := pe_cpy (p := q) (pos := pos) (of_decide_eq_true h1) (g.gl h1') ho.1 h2 pa
      exact all_val (se_mk hp (fun mv => sat_cpy oa mv) rfl) (sp_none hp fun _ => rfl) rfl
  | .fld sl C f, X, W, c, km, g, e, hc, ho => by
    cases e <;> first | (cases hc; done) | skip
    rename_i v n pos
    cases v <;> first | (cases hc; done) | skip
    rename_i x p
    obtain ⟨h1, h2⟩ := ands hc
    have hn : n = f := of_decide_eq_true h2
    subst hn
    have hp : PE X (.Attribute (.Name x p) n pos) (tFld X.K (tVar sl) n) := pe_fld (g.pv h1) rfl
    exact all_val (se_mk hp (fun mv => sat_fld ho mv) rfl) ⟨_, hp, satP_fld ho⟩ rfl
  | .meth sl C m f as, X, W, c, km, g, e, hc, ho => by
    cases e <;> first | (cases hc; done) | skip
    rename_i f' es kws pos
    cases f' <;> first | (cases hc; done) | skip
    rename_i v n ap
    cases v <;> first | (cases hc; done) | skip
    rename_i x p
    cases kws with
    | cons _ _ => cases hc
    | nil =>
      obtain ⟨j1, k2⟩ := ands hc
      obtain ⟨j2, k3⟩ := ands j1
      obtain ⟨k1, j3⟩ := ands j2
      obtain ⟨k4, k5⟩ := ands j3
      have hn : n = m := of_decide_eq_true k3
      subst hn
      have L := allL as g es k2 ho.2
      obtain ⟨tes, ps, sa⟩ := L.exA
      obtain ⟨Ca, k, a, fd, pss, hm, hcl, hme, hk, hF, hb⟩ := ho.1.ex
      have hs : Sat X W (tMethS Ca n (spOf X.K X.mg f) (WE W) (tVar sl) (runs tes)) (evE (.meth sl C n f as) false) := (sat_meth hm sa).congr' fun rs => by simp only [evE]
      have hs' : ∀ mv, Sat X W (tMethS Ca n (spOf X.K X.mg f) (WE W) (tVar sl) (runs tes)) (evE (.meth sl C n f as) mv) := fun mv => hs.congr' fun rs => by simp only [evE]
      cases es with
      | nil =>
        cases ps
        have hp : PE X (.Call (.Attribute (.Name x p) n ap) [] [] pos) (tMethS Ca n (spOf X.K X.mg f) (WE W) (tVar sl) (runs [])) := pe_methE0 (g.pv k1) hcl hme hF (g.room.mono hk) hb (fun σ => passAt g.tk σ) k4
        exact all_val (se_mk hp hs' rfl) (sp_none hp fun _ => rfl) rfl
      | cons e0 es =>
        have st := star_nst (L.nst e0 List.mem_cons_self) es X.env
        have hp : PE X (.Call (.Attribute (.Name x p) n ap) (e0 :: es) [] pos) (tMethS Ca n (spOf X.K X.mg f) (WE W) (tVar sl) (runs tes)) := pe_methE (g.pv k1) hcl hme hF (g.room.mono hk) hb (fun σ => passAt g.tk σ) (pa_of ps L.nst) st (back_nst (fun e he => L.nst e (List.mem_cons_of_mem _ he)) pos X.env) (back_nst L.nst pos X.env) (of_decide_eq_true k5) k4
        exact all_val (se_mk hp hs' rfl) (sp_none hp fun _ => rfl) rfl
  | .make C f as, X, W, c, km, g, e, hc, ho => by
    cases e <;> first | (cases hc; done) | skip
    rename_i f' es kws pos
    cases f' <;> first | (cases hc; done) | skip
    rename_i x q
    cases kws with
    | cons _ _ => cases hc
    | nil =>
      obtain ⟨h1, h2⟩ := ands hc
      obtain ⟨h1, h1'⟩ := ands h1
      obtain ⟨h2, h3⟩ := ands h2
      have hx : x = C := of_decide_eq_true h1
      subst hx
      have L := allL as g es h3 ho.2
      obtain ⟨tes, ps, sa⟩ := L.exA
      obtain ⟨gl, dbg, nm⟩ := g.gl h1'
      obtain ⟨Ca, k, a, fd, pss, hm, hmk, hk, hF, hb⟩ := ho.1.ex
      cases es with
      | nil => cases h2
      | cons e0 es =>
        have hp : PE X (.Call (.Name x q) (e0 :: es) [] pos) (tMakeS Ca (spOf X.K X.mg f) (WE W) (runs tes)) := pe_makeE hmk hF (g.room.mono hk) gl hm hb (fun σ => passAt g.tk σ) (pa_of ps L.nst) dbg (star_nst (L.nst e0 List.mem_cons_self) es X.env) (back_nst (fun e he => L.nst e (List.mem_cons_of_mem _ he)) pos X.env)
        exact all_val (se_mk hp (fun mv => (sat_make hm sa).congr' fun rs => by simp only [evE]) rfl) (sp_none hp fun _ => rfl) rfl
  | .tupc a, X, W, c, km, g, e, hc, ho => by
    cases e <;> first | (cases hc; done) | skip
    rename_i f' es kws pos
    cases f' <;> first | (cases hc; done) | skip
    rename_i x q
    match es, kws, hc with
    | [e], [], hc =>
      obtain ⟨h1, h2⟩ := ands hc
      obtain ⟨h1, h1'⟩ := ands h1
      obtain ⟨h2, h3⟩ := ands h2
      have A := allE a g e h3 ho.2
      obtain ⟨ta, pa, oa⟩ := A.se.opd
      have hp := pe_tupc (p := q) (pos := pos) (of_decide_eq_true h1) (g.gl h1') ho.1 h2 pa
      exact all_val (se_mk hp (fun mv => sat_tupc oa mv) rfl) (sp_none hp fun _ => rfl) rfl
  | .lc t it cs e own, X, W, c, km, g, ex, hc, ho => by
    cases ex <;> first | (cases hc; done) | skip
    rename_i elt gs scope pos
    match gs, hc with
    | [⟨tg, i, ifs, 0⟩], hc =>
      obtain ⟨h1, h2⟩ := ands hc
      obtain ⟨h1, h3⟩ := ands h1
      obtain ⟨h1, h4⟩ := ands h1
      obtain ⟨h3, h5⟩ := ands h3
      obtain ⟨h2, h6⟩ := ands h2
      obtain ⟨h6, h7⟩ := ands h6
      obtain ⟨h7, h8⟩ := ands h7
      obtain ⟨wi, pi, si, hf⟩ := allI it g (tg := tg) h2 ho.1 (fun q => by rw [q] at h3; simpa using h3)
      have ok : L2.BlkOk X.N X.env.scope scope (ownP c.N own) := by
        rw [g.N, g.sc]
        exact L2.blkOk_by h1
      have gb : ∀ (s : Shared) (H : Hp) (C : Addr) (cl : List (Str × Addr)) (fp : List Addr), Good (X.blk s H scope (compEnvC scope cl C X.env) fp) WF (c.blk scope) km := fun s H C cl fp => g.blk
      have pt : ∀ (s : Shared) (H : Hp) (C : Addr) (cl : List (Str × Addr)) (fp : List Addr), PTs (X.blk s H scope (compEnvC scope cl C X.env) fp) ifs (tEvB X.K X.mg (evAnd cs)) := fun s H C cl fp => by
        match cs, ifs, h6, h7, ho with
        | .nil, [], _, _, _ => exact pts_nilE
        | .cons a .nil, [x], h6, h7, ho =>
          obtain ⟨_, q⟩ := ands h6
          obtain ⟨q, _⟩ := ands q
          obtain ⟨tt, p, st⟩ := ((allE a (gb s H C cl fp) x q ho.2.1.1).st h7).ex
          exact pts_oneE p st
        | .cons a (.cons _ _), _, _, h7, _ => cases h7
        | .nil, _ :: _, h6, _, _ => cases h6
        | .cons a .nil, [], h6, _, _ => cases h6
        | .cons a .nil, _ :: _ :: _, h6, _, _ =>
          obtain ⟨_, q⟩ := ands h6
          obtain ⟨_, q⟩ := ands q
          cases q
      have pe : ∀ (s : Shared) (H : Hp) (C : Addr) (cl : List (Str × Addr)) (fp : List Addr), PE (X.blk s H scope (compEnvC scope cl C X.env) fp) elt (tEvE X.K X.mg (evE e false)) := fun s H C cl fp => by
        obtain ⟨te, p, se, _⟩ := (allE e (gb s H C cl fp) elt h8 ho.2.2).se.ex
        exact pe_ev (X := X.blk s H scope (compEnvC scope cl C X.env) fp) p (se false)
      have pg : ∀ (s : Shared) (H : Hp) (C : Addr) (cl : List (Str × Addr)) (fp : List Addr), PG (X.blk s H scope (compEnvC scope cl C X.env) fp) tg (gtOf X.K t) := fun s H C cl fp => pg_gt (gb s H C cl fp) h5
      have hp := pe_lc (X := X) (pos := pos) (wi := wi) g.fine.calm g.fine.nd pi ok pg pt pe hf
      rw [ownP_snd] at hp
      exact all_val (se_mk hp (fun mv => (sat_lc h4 si).congr' fun rs => by simp only [evE]) rfl) (sp_none hp fun _ => rfl) rfl
  | .lenset t it cs e own, X, W, c, km, g, ex, hc, ho => by
    cases ex <;> first | (cases hc; done) | skip
    rename_i f' es kws pos
    cases f' <;> first | (cases hc; done) | skip
    rename_i x q
    match es, kws, hc with
    | [.SetComp elt [⟨tg, i, ifs, 0⟩] scope pos2], [], hc =>
      obtain ⟨h0, hq⟩ := ands hc
      obtain ⟨h0, h0'⟩ := ands h0
      have hx : x = "len" := of_decide_eq_true h0
      subst hx
      obtain ⟨hol, ho⟩ := ho
      obtain ⟨h1, h2⟩ := ands hq
      obtain ⟨h1, h3⟩ := ands h1
      obtain ⟨h1, h4⟩ := ands h1
      obtain ⟨h3, h5⟩ := ands h3
      obtain ⟨h2, h6⟩ := ands h2
      obtain ⟨h6, h7⟩ := ands h6
      obtain ⟨h7, h8⟩ := ands h7
      obtain ⟨wi, pi, si, hf⟩ := allI it g (tg := tg) h2 ho.1 (fun q => by rw [q] at h3; simpa using h3)
      have ok : L2.BlkOk X.N X.env.scope scope (ownP c.N own) := by
        rw [g.N, g.sc]
        exact L2.blkOk_by h1
      have gb : ∀ (s : Shared) (H : Hp) (C : Addr) (cl : List (Str × Addr)) (fp : List Addr), Good (X.blk s H scope (compEnvC scope cl C X.env) fp) WF (c.blk scope) km := fun s H C cl fp => g.blk
      have pt : ∀ (s : Shared) (H : Hp) (C : Addr) (cl : List (Str × Addr)) (fp : List Addr), PTs (X.blk s H scope (compEnvC scope cl C X.env) fp) ifs (tEvB X.K X.mg (evAnd cs)) := fun s H C cl fp => by
        match cs, ifs, h6, h7, ho with
        | .nil, [], _, _, _ => exact pts_nilE
        | .cons a .nil, [x], h6, h7, ho =>
          obtain ⟨_, q⟩ := ands h6
          obtain ⟨q, _⟩ := ands q
          obtain ⟨tt, p, st⟩ := ((allE a (gb s H C cl fp) x q ho.2.1.1).st h7).ex
          exact pts_oneE p st
        | .cons a (.cons _ _), _, _, h7, _ => cases h7
        | .nil, _ :: _, h6, _, _ => cases h6
        | .cons a .nil, [], h6, _, _ => cases h6
        | .cons a .nil, _ :: _ :: _, h6, _, _ =>
          obtain ⟨_, q⟩ := ands h6
          obtain ⟨_, q⟩ := ands q
          cases q
      have pe : ∀ (s : Shared) (H : Hp) (C : Addr) (cl : List (Str × Addr)) (fp : List Addr), PE (X.blk s H scope (compEnvC scope cl C X.env) fp) elt (tEvE X.K X.mg (evE e false)) := fun s H C cl fp => by
        obtain ⟨te, p, se, _⟩ := (allE e (gb s H C cl fp) elt h8 ho.2.2).se.ex
        exact pe_ev (X := X.blk s H scope (compEnvC scope cl C X.env) fp) p (se false)
      have pg : ∀ (s : Shared) (H : Hp) (C : Addr) (cl : List (Str × Addr)) (fp : List Addr), PG (X.blk s H scope (compEnvC scope cl C X.env) fp) tg (gtOf X.K t) := fun s H C cl fp => pg_gt (gb s H C cl fp) h5
      have hp := pe_lensct (X := X) (p := q) (pos := pos2) (pos2 := pos) (wi := wi) g.fine.calm g.fine.units g.fine.nd (g.gl h0').1 hol pi ok pg pt pe hf
      rw [ownP_snd] at hp
      exact all_val (se_mk hp (fun mv => (sat_lenset h4 si).congr' fun rs => by simp only [evE]) rfl) (sp_none hp fun _ => rfl) rfl
  | .sorted a, X, W, c, km, g, e, hc, ho => by
    cases e <;> first | (cases hc; done) | skip
    rename_i f' es kws pos
    cases f' <;> first | (cases hc; done) | skip
    rename_i x q
    match es, kws, hc with
    | [e], [], hc =>
      obtain ⟨h1, h2⟩ := ands hc
      obtain ⟨h1, h1'⟩ := ands h1
      obtain ⟨h2, h3⟩ := ands h2
      obtain ⟨ta, pa, sa, _⟩ := (allE a g e h3 ho.2).se.ex
      have hp := pe_sortedD g.fine.units (p := q) (pos := pos) (of_decide_eq_true h1) (g.gl h1') ho.1 h2 pa
      exact all_val (se_mk hp (fun mv => (sat_sorted (sa false)).congr' fun rs => by simp only [evE]) rfl) (sp_none hp fun _ => rfl) rfl
  | .mvix s i, X, W, c, km, g, e, hc, ho => by
    cases e <;> first | (cases hc; done) | skip
    rename_i x sl pos
    cases x <;> first | (cases hc; done) | skip
    rename_i x q
    obtain ⟨h1, h2⟩ := ands hc
    obtain ⟨h2, h3⟩ := ands h2
    obtain ⟨tb, pb, sb, _⟩ := (allE i g sl h3 ho).se.ex
    have hp := pe_ix (pos := pos) ix_seq (g.pv (pos := q) h2) pb (plain_nsl h1)
    exact all_val (se_mk hp (fun mv => (sat_mvix (sb false) mv).congr' fun rs => by simp only [evE]) rfl) (sp_none hp fun _ => rfl) rfl
  | .lenO s C f, X, W, c, km, g, e, hc, ho => by
    cases e <;> first | (cases hc; done) | skip
    rename_i f' es kws pos
    cases f' <;> first | (cases hc; done) | skip
    rename_i x q
    match es, kws, hc with
    | [.Name y p], [], hc =>
      obtain ⟨h1, h2⟩ := ands hc
      obtain ⟨h1, h1'⟩ := ands h1
      have hx : x = "len" := of_decide_eq_true h1
      subst hx
      obtain ⟨Ca, k, a, fd, pss, hm, hme, hfn, hk, hF, hb⟩ := ho.2.ex
      have hp := pe_lenO (p := q) (pos := pos) (E := WE W) (g.pv (pos := p) h2) (g.gl h1').1 ho.1 hF (g.room.mono hk) hb (fun σ => passAt g.tk σ) hme
      exact all_val (se_mk hp (fun mv => (sat_lenO hm).congr' fun rs => by simp only [evE]) rfl) (sp_none hp fun _ => rfl) rfl
  | .itmO s C f as, X, W, c, km, g, e, hc, ho => by
    cases e <;> first | (cases hc; done) | skip
    rename_i x sl pos
    cases x <;> first | (cases hc; done) | skip
    rename_i x q
    obtain ⟨h1, h2⟩ := ands hc
    obtain ⟨h1, h3⟩ := ands h1
    have L := allL as g [sl] h2 ho.2
    obtain ⟨tes, ps, sa⟩ := L.exA
    obtain ⟨Ca, k, a, fd, pss, hm, hme, hfn, hk, hF, hb⟩ := ho.1.ex
    cases ps with
    | cons pb ps =>
      cases ps
      have hp := pe_itmO (pos := pos) (E := WE W) (g.pv (pos := q) h3) pb hF (g.room.mono hk) hb (fun σ => passAt g.tk σ) hme hfn h1
      exact all_val (se_mk hp (fun mv => (sat_itmO hm sa).congr' fun rs => by simp only [evE]) rfl) (sp_none hp fun _ => rfl) rfl
theorem allL : ∀ (as : Es) {X : Cx} {W : WX} {c : Ce} {km : Nat} (g : Good X W c km) (es : List Expr), chkL c as es = true → OkL (gvOf X) km as → AllL X W es as
  | .nil, X, W, c, km, g, es, hc, ho => by
    cases es with
    | cons _ _ => cases hc
    | nil => exact ⟨(fun _ h => by cases h), ⟨[], .nil, satA_nil⟩, ⟨[], .nil, fun _ => satV_nil⟩, ⟨[], .nil, satPs_nil⟩, (fun h => by cases h), (fun h => by cases h), (fun h => by cases h), (fun h => by cases h)⟩
  | .cons a r, X, W, c, km, g, es, hc, ho => by
    cases es with
    | nil => cases hc
    | cons e es =>
      obtain ⟨h1, h2⟩ := ands hc
      obtain ⟨h2, h3⟩ := ands h2
      have A := allE a g e h2 ho.1
      have L := allL r g es h3 ho.2
      obtain ⟨tes, ps, sa⟩ := L.exA
      obtain ⟨tev, pv, sv⟩ := L.exV
      obtain ⟨tep, pp, sp⟩ := L.exP
      obtain ⟨t, p, s, hs⟩ := A.se.ex
      obtain ⟨to, po, so⟩ := A.se.opd
      obtain ⟨u, q, sq⟩ := A.sp.ex
      refine ⟨fun x hx => ?_, ⟨_, .cons po ps, satA_cons so sa⟩, ⟨_, .cons p pv, fun mv => satV_cons (s mv) (sv mv)⟩, ⟨_, .cons q pp, satPs_cons sq sp⟩, fun _ pos => ?_, fun _ pos => ?_, fun _ ht pos => ?_, fun _ ht pos => ?_⟩
      · rcases List.mem_cons.mp hx with rfl | hx
        · exact h1
        · exact L.nst x hx
      · cases es with
        | nil =>
          cases r with
          | cons _ _ => cases h3
          | nil => exact ⟨t, pe_one p, sat_and1 (s false)⟩
        | cons e2 es =>
          obtain ⟨t2, p2, s2⟩ := L.land rfl pos
          exact ⟨_, pe_and p p2, sat_andN (s false) s2⟩
      · cases es with
        | nil =>
          cases r with
          | cons _ _ => cases h3
          | nil => exact ⟨t, pe_one p, sat_or1 (s false)⟩
        | cons e2 es =>
          obtain ⟨t2, p2, s2⟩ := L.lor rfl pos
          exact ⟨_, pe_or p p2, sat_orN (s false) s2⟩
      · obtain ⟨h4, h5⟩ := ands ht
        obtain ⟨tt, pt, st⟩ := (A.st h4).ex
        cases es with
        | nil =>
          cases r with
          | cons _ _ => cases h3
          | nil => exact ⟨tt, pw_and1 pt, satT_and1 st⟩
        | cons e2 es =>
          obtain ⟨t2, p2, s2⟩ := L.landT rfl h5 pos
          exact ⟨_, pw_and pt p2, satT_andN st s2⟩
      · obtain ⟨h4, h5⟩ := ands ht
        obtain ⟨tt, pt, st⟩ := (A.st h4).ex
        cases es with
        | nil =>
          cases r with
          | cons _ _ => cases h3
          | nil => exact ⟨tt, pw_or1 pt, satT_or1 st⟩
        | cons e2 es =>
          obtain ⟨t2, p2, s2⟩ := L.lorT rfl h5 pos
          exact ⟨_, pw_or pt p2, satT_orN st s2⟩
theorem allI : ∀ (it : Iter) {X : Cx} {W : WX} {c : Ce} {km : Nat} (g : Good X W c km) {tg i : Expr} (hc : chkI c it i = true) (ho : OkI (gvOf X) km it) (ht : needTup it = true → isTup tg = true), ∃ wi, PI X tg i wi ∧ SatI X W wi (evI it) ∧ ∀ x, foldedSetIterable i X.env x = pure x
  | .rng1 as, X, W, c, km, g, tg, i, hc, ho, ht => by
    cases i <;> first | (cases hc; done) | skip
    rename_i f es kws pos
    cases f <;> first | (cases hc; done) | skip
    rename_i x p
    match es, kws, hc with
    | [e], [], hc =>
      obtain ⟨h1, h2⟩ := ands hc
      obtain ⟨h1, h3⟩ := ands h1
      have hx : x = "range" := of_decide_eq_true h1
      subst hx
      have L := allL as g [e] h2 ho.2
      obtain ⟨tes, ps, sa⟩ := L.exA
      exact ⟨_, pi_range1 (g.gl h3).1 ho.1 (pa_of ps L.nst) (star_nst (L.nst e List.mem_cons_self) [] X.env), (satI_rng1 sa).congr (fun rs => by (simp only [evI] <;> rfl)), fun _ => rfl⟩
  | .rng2 as, X, W, c, km, g, tg, i, hc, ho, ht => by
    cases i <;> first | (cases hc; done) | skip
    rename_i f es kws pos
    cases f <;> first | (cases hc; done) | skip
    rename_i x p
    match es, kws, hc with
    | [e1, e2], [], hc =>
      obtain ⟨h1, h2⟩ := ands hc
      obtain ⟨h1, h3⟩ := ands h1
      have hx : x = "range" := of_decide_eq_true h1
      subst hx
      have L := allL as g [e1, e2] h2 ho.2
      obtain ⟨tes, ps, sa⟩ := L.exA
      have n1 := L.nst e1 List.mem_cons_self
      have n2 := L.nst e2 (List.mem_cons_of_mem _ List.mem_cons_self)
      have s2 : starEach [e2] X.env = [(false, eval e2 X.env)] := star_nst n2 [] X.env
      exact ⟨_, pi_range2 (g.gl h3).1 ho.1 (pa_of ps L.nst) (by rw [star_nst n1, s2]) s2, (satI_rng2 sa).congr (fun rs => by (simp only [evI] <;> rfl)), fun _ => rfl⟩
  | .seqL a, X, W, c, km, g, tg, i, hc, ho, ht => by
    obtain ⟨h1, h2⟩ := ands (show (nsetE i && chkE c a i) = true by cases i <;> exact hc)
    obtain ⟨t, p, s, _⟩ := (allE a g i h2 ho).se.ex
    exact ⟨_, pi_seq p, (satI_seqL (s false)).congr (fun rs => by (simp only [evI] <;> rfl)), fun _ => by cases i <;> first | rfl | cases h1⟩
  | .enm a, X, W, c, km, g, tg, i, hc, ho, ht => by
    cases i <;> first | (cases hc; done) | skip
    rename_i f es kws pos
    cases f <;> first | (cases hc; done) | skip
    rename_i x p
    match es, kws, hc with
    | [e], [], hc =>
      obtain ⟨h1, h2⟩ := ands hc
      obtain ⟨h1, h3⟩ := ands h1
      obtain ⟨h2, h4⟩ := ands h2
      have hx : x = "enumerate" := of_decide_eq_true h1
      subst hx
      obtain ⟨t, pe, s, _⟩ := (allE a g e h4 ho.2).se.ex
      have hT := ht rfl
      cases tg <;> first | (cases hT; done) | skip
      have hs : ∀ x ∈ [e], nst x = true := fun x hx => by
        simp only [List.mem_cons, List.not_mem_nil, or_false] at hx
        subst hx; exact h2
      exact ⟨_, pi_enum (g.gl h3).1 ho.1 (pa_of (.one pe) hs) (star_nst h2 [] X.env), (satI_enm (s false)).congr (fun rs => by (simp only [evI] <;> rfl)), fun _ => rfl⟩
  | .zip a b, X, W, c, km, g, tg, i, hc, ho, ht => by
    cases i <;> first | (cases hc; done) | skip
    rename_i f es kws pos
    cases f <;> first | (cases hc; done) | skip
    rename_i x p
    match es, kws, hc with
    | [e1, e2], [], hc =>
      obtain ⟨h1, h2⟩ := ands hc
      obtain ⟨h1, h3⟩ := ands h1
      obtain ⟨h2, h4⟩ := ands h2
      obtain ⟨n1, h2⟩ := ands h2
      obtain ⟨n2, h4⟩ := ands h4
      have hx : x = "zip" := of_decide_eq_true h1
      subst hx
      obtain ⟨t, pe, s, _⟩ := (allE a g e1 h2 ho.2.1).se.ex
      obtain ⟨t2, pe2, s2, _⟩ := (allE b g e2 h4 ho.2.2).se.ex
      have hT := ht rfl
      cases tg <;> first | (cases hT; done) | skip
      have hs : ∀ x ∈ [e1, e2], nst x = true := fun x hx => by
        simp only [List.mem_cons, List.not_mem_nil, or_false] at hx
        rcases hx with rfl | rfl
        · exact n1
        · exact n2
      exact ⟨_, pi_zipM (g.gl h3).1 ho.1 (pa_of (.cons pe (.one pe2)) hs) (star_nst n1 _ X.env) (back_nst (fun x hx => hs x (List.mem_cons_of_mem _ hx)) _ _), (satI_zip (s false) (s2 false)).congr (fun rs => by (simp only [evI] <;> rfl)), fun _ => rfl⟩
end
/-- a comprehension's parts -/
theorem lc_parts (g : Good X W c km) {t : Tg} {it : Iter} {cs : Es} {e : E} {own : List Nat} {elt : Expr} {gs : List Comprehension} {scope : Scope} {pos : Pos} (hc : chkE c (.lc t it cs e own) (.ListComp elt gs scope pos) = true) (ho : OkE (gvOf X) km (.lc t it cs e own)) :
    ∃ tg i ifs wi, gs = [⟨tg, i, ifs, 0⟩] ∧ PI X tg i wi ∧ SatI X W wi (evI it) ∧ (∀ x, foldedSetIterable i X.env x = pure x) ∧ L2.BlkOk X.N X.env.scope scope (ownP c.N own) ∧ tgIn own t = true ∧
      (∀ (s : Shared) (H : Hp) (C : Addr) (cl : List (Str × Addr)) (fp : List Addr), PG (X.blk s H scope (compEnvC scope cl C X.env) fp) tg (gtOf X.K t)) ∧
      (∀ (s : Shared) (H : Hp) (C : Addr) (cl : List (Str × Addr)) (fp : List Addr), PTs (X.blk s H scope (compEnvC scope cl C X.env) fp) ifs (tEvB X.K X.mg (evAnd cs))) ∧
      ∀ (s : Shared) (H : Hp) (C : Addr) (cl : List (Str × Addr)) (fp : List Addr), PE (X.blk s H scope (compEnvC scope cl C X.env) fp) elt (tEvE X.K X.mg (evE e false)) := by
  match gs, hc with
  | [⟨tg, i, ifs, 0⟩], hc =>
    obtain ⟨h1, h2⟩ := ands hc
    obtain ⟨h1, h3⟩ := ands h1
    obtain ⟨h1, h4⟩ := ands h1
    obtain ⟨h3, h5⟩ := ands h3
    obtain ⟨h2, h6⟩ := ands h2
    obtain ⟨h6, h7⟩ := ands h6
    obtain ⟨h7, h8⟩ := ands h7
    obtain ⟨wi, pi, si, hf⟩ := allI it g (tg := tg) h2 ho.1 (fun q => by rw [q] at h3; simpa using h3)
    have ok : L2.BlkOk X.N X.env.scope scope (ownP c.N own) := by
      rw [g.N, g.sc]
      exact L2.blkOk_by h1
    have gb : ∀ (s : Shared) (H : Hp) (C : Addr) (cl : List (Str × Addr)) (fp : List Addr), Good (X.blk s H scope (compEnvC scope cl C X.env) fp) WF (c.blk scope) km := fun s H C cl fp => g.blk
    refine ⟨tg, i, ifs, wi, rfl, pi, si, hf, ok, h4, fun s H C cl fp => pg_gt (gb s H C cl fp) h5, fun s H C cl fp => ?_, fun s H C cl fp => ?_⟩
    · match cs, ifs, h6, h7, ho with
      | .nil, [], _, _, _ => exact pts_nilE
      | .cons a .nil, [x], h6, h7, ho =>
        obtain ⟨_, q⟩ := ands h6
        obtain ⟨q, _⟩ := ands q
        obtain ⟨tt, p, st⟩ := ((allE a (gb s H C cl fp) x q ho.2.1.1).st h7).ex
        exact pts_oneE p st
      | .cons a (.cons _ _), _, _, h7, _ => cases h7
      | .nil, _ :: _, h6, _, _ => cases h6
      | .cons a .nil, [], h6, _, _ => cases h6
      | .cons a .nil, _ :: _ :: _, h6, _, _ =>
        obtain ⟨_, q⟩ := ands h6
        obtain ⟨_, q⟩ := ands q
        cases q
    · obtain ⟨te, p, se, _⟩ := (allE e (gb s H C cl fp) elt h8 ho.2.2).se.ex
      exact pe_ev (X := X.blk s H scope (compEnvC scope cl C X.env) fp) p (se false)
end
end Pv

set_option maxHeartbeats 2000000
namespace Pv
open PySem PySem.Spec PyProof.Rows L2
section
variable {K : Fr} {mg : Str → Option Value} {G G' H H' : Hp} {fp f1 f2 : FP} {ts : List D} {tv : List V} {rs : List D} {sg : L2.St}
/-- the third comes to the top -/
theorem R.third {a b d : D} {va vb vd : V} (r : R K mg G H (a :: b :: d :: ts) (va :: vb :: vd :: tv) rs sg fp) : R K mg G H (d :: a :: b :: ts) (vd :: va :: vb :: tv) rs sg fp := by
  obtain ⟨f1, f2, h1, r2, dj, e⟩ := r.top
  have r3 := r2.swap.push h1 dj fun x o hg z => (r.sub x o hg).2 ((e x).2 (.inl z))
  exact r3.swap.iff fun x => (e x).symm
theorem reps_hole : ∀ {xs : List D} {vs : List V} {fp : FP} {j : Nat} {c : D}, Reps K mg G H xs vs fp → xs[j]? = some c → ∃ w f1 f2, vs[j]? = some w ∧ Rep K mg G H c w f1 ∧ Reps K mg G H (xs.set j .un) vs f2 ∧ (∀ a, f1 a → ¬ f2 a) ∧ ∀ a, fp a ↔ (f1 a ∨ f2 a)
  | x :: xs, v :: vs, fp, 0, c, h, e => by
    cases e
    simp only [Reps] at h
    obtain ⟨g1, g2, k1, k2, k3, k4⟩ := h
    refine ⟨v, g1, g2, rfl, k1, ?_, k3, k4⟩
    simp only [List.set_cons_zero, Reps, Rep]
    exact ⟨fun _ => False, g2, fun _ z => z, k2, fun _ z => z.elim, fun a => by simp⟩
  | x :: xs, v :: vs, fp, j + 1, c, h, e => by
    simp only [Reps] at h
    obtain ⟨g1, g2, k1, k2, k3, k4⟩ := h
    obtain ⟨w, f1, f2, q1, q2, q3, q4, q5⟩ := reps_hole (j := j) k2 (by simpa using e)
    refine ⟨w, f1, fun a => g1 a ∨ f2 a, by simpa using q1, q2, ?_, fun a ha hb => ?_, fun a => ?_⟩
    · simp only [List.set_cons_succ, Reps]
      exact ⟨g1, f2, k1, q3, fun a ha hb => k3 a ha ((q5 a).2 (.inr hb)), fun _ => Iff.rfl⟩
    · rcases hb with hb | hb
      · exact k3 a hb ((q5 a).2 (.inl ha))
      · exact q4 a ha hb
    · rw [k4 a, q5 a]
      constructor
      · rintro (z | z | z)
        · exact .inr (.inl z)
        · exact .inl z
        · exact .inr (.inr z)
      · rintro (z | z | z)
        · exact .inr (.inl z)
        · exact .inl z
        · exact .inr (.inr z)
  | [], _, _, _, _, _, e => by simp at e
  | _ :: _, [], _, _, _, h, _ => by simp only [Reps] at h
/-- an item of an own list taken out onto the pile -/
theorem R.out {xs : List D} {vx : V} {j : Nat} {c : D} (r : R K mg G H (.lst true xs :: ts) (vx :: tv) rs sg fp) (e : xs[j]? = some c) :
    ∃ p vs w, vx = .ref p ∧ H p = some (.lst vs) ∧ vs.length = xs.length ∧ vs[j]? = some w ∧ R K mg G H (c :: .lst true (xs.set j .un) :: ts) (w :: vx :: tv) rs sg fp := by
  obtain ⟨f1, f2, h1, r2, dj, ef⟩ := r.top
  simp only [Rep] at h1
  obtain ⟨p, vs, g, rfl, hp, hr, np, eg⟩ := h1
  obtain ⟨w, g1, g2, q1, q2, q3, q4, q5⟩ := reps_hole hr e
  have k1 : Rep K mg G H (.lst true (xs.set j .un)) (.ref p) (fun a => a = p ∨ g2 a) := by
    simp only [Rep]
    exact ⟨p, vs, g2, rfl, hp, q3, fun z => np ((q5 p).2 (.inr z)), fun _ => Iff.rfl⟩
  have le1 : ∀ a, (a = p ∨ g2 a) → f1 a := fun a z => (eg a).2 (z.imp id fun z => (q5 a).2 (.inr z))
  have le2 : ∀ a, g1 a → f1 a := fun a z => (eg a).2 (.inr ((q5 a).2 (.inl z)))
  have r3 := r2.push k1 (fun a ha hb => dj a (le1 a ha) hb) fun a o hg z => (r.sub a o hg).2 ((ef a).2 (.inl (le1 a z)))
  have r4 := r3.push q2 (fun a ha hb => by
    rcases hb with (hb | hb) | hb
    · exact np ((q5 p).2 (.inl (hb ▸ ha)))
    · exact q4 a ha hb
    · exact dj a (le2 a ha) hb) fun a o hg z => (r.sub a o hg).2 ((ef a).2 (.inl (le2 a z)))
  refine ⟨p, vs, w, rfl, hp, (reps_len hr).symm, q1, r4.iff fun a => ?_⟩
  rw [ef a, eg a, q5 a]
  constructor
  · rintro (z | (z | z) | z)
    · exact .inl (.inr (.inl z))
    · exact .inl (.inl z)
    · exact .inl (.inr (.inr z))
    · exact .inr z
  · rintro ((z | z | z) | z)
    · exact .inr (.inl (.inl z))
    · exact .inl z
    · exact .inr (.inl (.inr z))
    · exact .inr (.inr z)
/-- .. and back -/
theorem R.inn {xs : List D} {p : Addr} {vs : List V} {j : Nat} {c : D} {w : V} (r : R K mg G H (c :: .lst true xs :: ts) (w :: .ref p :: tv) rs sg fp) (hp : H p = some (.lst vs)) (hw : vs[j]? = some w) :
    ∃ fp', R K mg G H (.lst true (xs.set j c) :: ts) (.ref p :: tv) rs sg fp' ∧ Step K G H fp G H fp' := by
  obtain ⟨f1, f2, h1, r2, dj, ef⟩ := r.top
  obtain ⟨g1, g2, k1, r3, dj2, eg⟩ := r2.top
  simp only [Rep] at k1
  obtain ⟨p', vs', g, e1, hp', hr, np, eg'⟩ := k1
  cases e1
  rw [hp] at hp'; cases hp'
  obtain ⟨f3, q1, q2⟩ := reps_set j h1 hr fun a ha hb => dj a ha ((eg a).2 (.inl ((eg' a).2 (.inr hb))))
  rw [set_same hw] at q1
  have n3 : ¬ f3 p := fun z => (q2 p z).elim (fun z => dj p z ((eg p).2 (.inl ((eg' p).2 (.inl rfl))))) np
  have k2 : Rep K mg G H (.lst true (xs.set j c)) (.ref p) (fun a => a = p ∨ f3 a) := by
    simp only [Rep]
    exact ⟨p, vs, f3, rfl, hp, q1, n3, fun _ => Iff.rfl⟩
  have le : ∀ a, (a = p ∨ f3 a) → fp a ∧ ¬ g2 a := fun a z => by
    rcases z with z | z
    · rw [z]; exact ⟨(ef p).2 (.inr ((eg p).2 (.inl ((eg' p).2 (.inl rfl))))), dj2 p ((eg' p).2 (.inl rfl))⟩
    · rcases q2 a z with z | z
      · exact ⟨(ef a).2 (.inl z), fun y => dj a z ((eg a).2 (.inr y))⟩
      · exact ⟨(ef a).2 (.inr ((eg a).2 (.inl ((eg' a).2 (.inr z))))), dj2 a ((eg' a).2 (.inr z))⟩
  refine ⟨_, r3.push k2 (fun a ha => (le a ha).2) (fun a o hg z => (r.sub a o hg).2 (le a z).1), .less fun a z => ?_⟩
  rcases z with z | z
  · exact (le a z).1
  · exact (ef a).2 (.inr ((eg a).2 (.inr z)))
end
section
variable {X : Cx} {W : WX} {c : Ce} {km : Nat} {io : List Nat}
/-! ### stores -/
def ownItems : D → Option (List D)
  | .lst true xs => some xs
  | _ => none
theorem ownItems_of {d : D} {xs : List D} (h : ownItems d = some xs) : d = .lst true xs := by
  cases d <;> first | (cases h; done) | skip
  rename_i o ys
  cases o <;> cases h
  rfl
def asInt : D → Option Int
  | .int i => some i
  | _ => none
theorem asInt_of {d : D} {i : Int} (h : asInt d = some i) : d = .int i := by
  cases d <;> first | (cases h; done) | skip
  cases h; rfl
def sto1 (s : Nat) (j : Option D) (d : D) (rs : List D) : Option (List D) := ob j fun j => ob (asInt j) fun k => ob rs[s]? fun l => ob (ownItems l) fun xs => ob (ixN xs.length k) fun i => some (rs.set s (.lst true (xs.set i d)))
def sto2 (s : Nat) (j1 j2 : Option D) (d : D) (rs : List D) : Option (List D) := ob j1 fun j1 => ob (asInt j1) fun k1 => ob j2 fun j2 => ob (asInt j2) fun k2 => ob rs[s]? fun l => ob (ownItems l) fun xs =>
  ob (ixN xs.length k1) fun i1 => ob xs[i1]? fun m => ob (ownItems m) fun ys => ob (ixN ys.length k2) fun i2 => some (rs.set s (.lst true (xs.set i1 (.lst true (ys.set i2 d)))))
theorem satG_sto1 {s : Nat} {tj : TE} {j : E} (hj : SatP X tj (evP j)) : SatG X io (gSub (tVar s) tj rSetL) (fun d rs => sto1 s (evP j rs) d rs) := by
  intro d rs rs' e v sg G H ts tv fp Q hR h
  unfold sto1 at e
  obtain ⟨jd, ej, e⟩ := ob_some e
  obtain ⟨k, ek, e⟩ := ob_some e
  obtain ⟨l, el, e⟩ := ob_some e
  obtain ⟨xs, ex, e⟩ := ob_some e
  obtain ⟨i, hi, e⟩ := ob_some e
  cases e
  cases ownItems_of ex
  cases asInt_of ek
  obtain ⟨vx, hv⟩ := hR.val el (by intro z; cases z)
  refine ⟨vx, hv, ?_⟩
  refine hj rs _ ej sg G H _ _ fp _ hR fun w hw => ?_
  cases vw_int hw
  have r1 := (hR.take el hv).swap
  obtain ⟨p, vs, rfl, hp, hl, f2, r2, st2⟩ := r1.putL i
  obtain ⟨f3, r3, st3⟩ := r2.back hv
  rw [List.set_set] at r3
  exact ⟨p, vs, k, i, rfl, rfl, hp, by rw [hl]; exact hi, h sg _ f3 (st2.trans st3) (Kp.refl _ _) r3⟩
/-- a store whose index does something -/
def stoE1 (s : Nat) (evj : List D → Option (Res D)) (d : D) (rs : List D) : Option Fl := ob rs[s]? fun d0 => if isUn d0 then none else match evj rs with
  | some (.ok jd rs2) => ob (sto1 s (some jd) d rs2) fun rs3 => some (.nx rs3)
  | _ => none
theorem satS_stoE {s : Nat} {te tj : TE} {ev evj : List D → Option (Res D)} (h : Sat X W te ev) (hj : Sat X W tj evj) : SatS X W io (tAsg te (gSub (tVar s) tj rSetL)) (fun rs => thenE (ev rs) fun d rs1 => stoE1 s evj d rs1) := by
  intro rs r e sg G H fp Dn hR hp
  refine sat_then (f := fun d rs1 => stoE1 s evj d rs1) (g := fun v sg H' => gSub (tVar s) tj rSetL v sg H' Dn.nx) h e hR hp fun d rs1 _ e v G' H' f' st r' hp => ?_
  unfold stoE1 at e
  obtain ⟨d0, qd0, e⟩ := ob_some e
  split at e
  · cases e
  rename_i hu
  obtain ⟨vx, hv⟩ := r'.val qd0 (by intro z; rw [z] at hu; exact hu rfl)
  refine ⟨vx, hv, ?_⟩
  split at e
  case h_2 => cases e
  rename_i jd rs2 q
  refine hj rs1 _ q sg G' H' [d] [v] f' _ r' (fun d' rs' er w G2 H2 f2 st2 r2 => ?_) (fun x rs' er => by cases er)
  cases er
  obtain ⟨rs3, es, e⟩ := ob_some e
  cases e
  unfold sto1 at es
  obtain ⟨jd, ej, es⟩ := ob_some es
  cases ej
  obtain ⟨k, ek, es⟩ := ob_some es
  obtain ⟨l, el, es⟩ := ob_some es
  obtain ⟨xs, ex, es⟩ := ob_some es
  obtain ⟨i, hi, es⟩ := ob_some es
  cases es
  cases ownItems_of ex
  cases asInt_of ek
  cases vw_int (show Vw X.K X.mg H2 (.int k) w from r2.viewT)
  obtain ⟨f3, r3, st3⟩ := r2.drop
  have r4 := (r3.take el hv).swap
  obtain ⟨p, vs, rfl, hpp, hl, f5, r5, st5⟩ := r4.putL i
  obtain ⟨f6, r6, st6⟩ := r5.back hv
  rw [List.set_set] at r6
  exact ⟨p, vs, k, i, rfl, rfl, hpp, by rw [hl]; exact hi, hp sg G2 _ f6 (((st2.trans st3).trans st5).trans st6) (Kp.refl _ _) r6⟩
theorem satG_sto2 {s : Nat} {t1 t2 : TE} {j1 j2 : E} (h1 : SatP X t1 (evP j1)) (h2 : SatP X t2 (evP j2)) : SatG X io (gSub (tOp (rIx X.K) (tVar s) t1) t2 rSetL) (fun d rs => sto2 s (evP j1 rs) (evP j2 rs) d rs) := by
  intro d rs rs' e v sg G H ts tv fp Q hR h
  unfold sto2 at e
  obtain ⟨d1, ej1, e⟩ := ob_some e
  obtain ⟨k1, ek1, e⟩ := ob_some e
  obtain ⟨d2, ej2, e⟩ := ob_some e
  obtain ⟨k2, ek2, e⟩ := ob_some e
  obtain ⟨l, el, e⟩ := ob_some e
  obtain ⟨xs, ex, e⟩ := ob_some e
  obtain ⟨i1, hi1, e⟩ := ob_some e
  obtain ⟨m, em, e⟩ := ob_some e
  obtain ⟨ys, ey, e⟩ := ob_some e
  obtain ⟨i2, hi2, e⟩ := ob_some e
  cases e
  cases ownItems_of ex
  cases ownItems_of ey
  cases asInt_of ek1
  cases asInt_of ek2
  obtain ⟨vx, hv⟩ := hR.val el (by intro z; cases z)
  refine ⟨vx, hv, ?_⟩
  refine h1 rs _ ej1 sg G H _ _ fp _ hR fun w hw => ?_
  cases vw_int hw
  have r1 := hR.take el hv
  obtain ⟨p, vs, w, rfl, hp, hl, hw, r2⟩ := r1.out em
  have r3 := r2.third
  obtain ⟨q, us, rfl, hq, hul, f4, r4, st4⟩ := r3.putL i2
  have hpq : p ≠ q := fun z => by
    subst z
    obtain ⟨g1, g2, a1, b1, c1, e1⟩ := r2.top
    obtain ⟨g3, g4, a2, _, _, e2⟩ := b1.top
    simp only [Rep] at a1 a2
    obtain ⟨_, _, _, x1, _, _, _, x2⟩ := a1
    obtain ⟨_, _, _, y1, _, _, _, y2⟩ := a2
    cases x1; cases y1
    exact c1 p ((x2 p).2 (.inl rfl)) ((e2 p).2 (.inl ((y2 p).2 (.inl rfl))))
  obtain ⟨f5, r5, st5⟩ := r4.inn (p := p) (vs := vs) (j := i1) (by rw [upd_ne hpq]; exact hp) hw
  rw [List.set_set] at r5
  obtain ⟨f6, r6, st6⟩ := r5.back hv
  rw [List.set_set] at r6
  have hat : atI vs k1 = some (.ref q) := by
    unfold atI
    rw [hl, hi1]; exact hw
  refine ix_of (.inl (.inl (.inl hp))) hat ?_
  refine h2 rs _ ej2 sg G H _ _ fp _ hR fun w hw => ?_
  cases vw_int hw
  exact ⟨q, us, k2, i2, rfl, rfl, hq, by rw [hul]; exact hi2, h sg _ f6 ((st4.trans st5).trans st6) (Kp.refl _ _) r6⟩
/-- x.append(e) -/
def app1 (s : Nat) (d : D) (rs : List D) : Option (List D) := ob rs[s]? fun l => ob (ownItems l) fun xs => if xs.length < 1000000 then some (rs.set s (.lst true (xs ++ [d]))) else none
def isOwnL (s : Nat) (rs : List D) : Bool := match rs[s]? with
  | some (.lst _ _) => true
  | _ => false
theorem satS_app {s : Nat} {te : TE} {ev : List D → Option (Res D)} (h : Sat X W te ev) : SatS X W io (tDrop (tBM X.K "list" rAppend (tVar s) (runs [te]))) (fun rs => if isOwnL s rs then thenE (ev rs) fun d rs1 => ob (app1 s d rs1) fun rs2 => some (.nx rs2) else none) := by
  intro rs r e sg G H fp Dn hR hp
  dsimp only at e
  split at e
  case isFalse => cases e
  rename_i hl
  unfold isOwnL at hl
  split at hl
  case h_2 => cases hl
  rename_i o ys el
  obtain ⟨vx, hv⟩ := hR.val el (by intro z; cases z)
  obtain ⟨p0, vs0, rfl, hs0, _⟩ := vw_lst (show Vw X.K X.mg H (.lst false (fzs ys)) vx from hR.view el hv)
  refine ⟨_, hv, .inl ⟨rfl, _, hs0⟩, ?_⟩
  refine sat_then (f := fun d rs1 => ob (app1 s d rs1) fun rs2 => some (.nx rs2)) (g := fun v sg H' => rAppend (.ref p0) [v] H' fun _ H2 => Dn.nx sg H2) h e hR hp fun d rs1 _ e v G' H' f' st r' hp => ?_
  obtain ⟨rs2, ea, eb⟩ := ob_some e
  cases eb
  unfold app1 at ea
  obtain ⟨l, el2, ec⟩ := ob_some ea
  obtain ⟨xs, ex, ed⟩ := ob_some ec
  split at ed
  case isFalse => cases ed
  rename_i hlen
  cases ed
  cases ownItems_of ex
  have r1 := (r'.take el2 hv).swap
  obtain ⟨p, vs, e1, hpp, hvl, f2, r2, st2⟩ := r1.appL
  cases e1
  obtain ⟨f3, r3, st3⟩ := r2.back hv
  rw [List.set_set] at r3
  exact ⟨p0, vs, v, rfl, rfl, hpp, by rw [hvl]; exact Nat.lt_of_lt_of_le hlen (by decide), hp sg G' _ f3 (st2.trans st3) (Kp.refl _ _) r3⟩
/-! ### name op= e -/
def opI : P2 → Value → Value → Sem Value
  | .add => inplaceOp .Add
  | .sub => inplaceOp .Sub
  | .mul => inplaceOp .Mult
  | _ => fun _ _ => .unsupported "none"
def augOk : P2 → Bool
  | .add => true
  | .sub => true
  | .mul => true
  | _ => false
def augI (p : P2) (i j : Int) : Option Int := match p with
  | .add => some (i + j)
  | .sub => some (i - j)
  | .mul => if mulOk i j then some (i * j) else none
  | _ => none
def rAug (p : P2) : R2 := fun x y H Q => ∃ i j k, x = .int i ∧ y = .int j ∧ augI p i j = some k ∧ Q (.int k) H
theorem mulOk_of {i j : Int} (hc : mulOk i j = true) : IntMulOk i j := by
  have b : ∀ x : Int, Builtin.Int.intBits x ≤ x.natAbs.log2 + 1 := fun x => by
    unfold Builtin.Int.intBits
    split <;> omega
  have h1 := b i
  have h2 := b j
  have h3 : i.natAbs.log2 + j.natAbs.log2 < 100000000 := of_decide_eq_true hc
  have e : bitsLine = 134217728 := by decide
  unfold IntMulOk
  intro z
  rw [Bool.and_eq_true] at z
  have z2 := z.2
  unfold Builtin.Int.intTooBig at z2
  have z3 := of_decide_eq_true z2
  rw [e] at z3
  omega
theorem doesAug {p : P2} (hp : augOk p = true) : OpR X (opI p) (rAug p) := by
  intro pins s σ H x y v u Q I rx ry h
  obtain ⟨i, j, k, rfl, rfl, e, q⟩ := h
  cases p <;> first | (cases hp; done) | skip
  · cases e
    exact iop_add pins s σ H _ _ v u Q I rx ry ⟨i, j, rfl, rfl, q⟩
  · cases e
    exact iop_sub pins s σ H _ _ v u Q I rx ry ⟨i, j, rfl, rfl, q⟩
  · simp only [augI] at e
    split at e
    · rename_i hm
      cases e
      obtain ⟨t, rfl⟩ := rx
      obtain ⟨t', rfl⟩ := ry
      exact imul_int ⟨.int _, H, I.tok _, ⟨_, rfl⟩, q⟩ (mulOk_of hm)
    · cases e
def aug1 (i : Nat) (p : P2) (a : Option D) (d : D) (rs : List D) : Option (List D) := ob a fun a => ob (asInt a) fun x => ob (asInt d) fun y => ob (augI p x y) fun z => if okS io rs.length i then some (rs.set i (.int z)) else none
theorem satS_aug {i : Nat} {p : P2} {te : TE} {ev : List D → Option (Res D)} (h : Sat X W te ev) : SatS X W io (tAug i te (rAug p)) (fun rs => ob (evP (.var i) rs) fun a => ob (asInt a) fun x => thenE (ev rs) fun d rs1 => ob (asInt d) fun y => ob (augI p x y) fun z => if okS io rs1.length i then some (.nx (rs1.set i (.int z))) else none) := by
  intro rs r e sg G H fp Dn hR hp
  dsimp only at e
  obtain ⟨a, ea, e⟩ := ob_some e
  obtain ⟨x, ex, e⟩ := ob_some e
  cases asInt_of ex
  refine satP_var (s := i) rs _ ea sg G H [] [] fp (fun v H' => te sg H' fun y H1 => rAug p v y H1 fun z H2 => Dn.nx (sg.set i (some z)) H2) hR fun v hv => ?_
  cases vw_int hv
  refine sat_then (f := fun d rs1 => ob (asInt d) fun y => ob (augI p x y) fun z => if okS io rs1.length i then some (.nx (rs1.set i (.int z))) else none) (g := fun v sg H' => rAug p (.int x) v H' fun z H2 => Dn.nx (sg.set i (some z)) H2) h e hR hp fun d rs1 _ e v G' H' f' st r' hp => ?_
  obtain ⟨y, ey, e⟩ := ob_some e
  obtain ⟨z, ez, e⟩ := ob_some e
  split at e
  case isFalse => cases e
  rename_i ho
  cases e
  cases asInt_of ey
  cases vw_int (show Vw X.K X.mg H' (.int y) v from r'.viewT)
  obtain ⟨f2, r2, st2⟩ := r'.drop
  obtain ⟨o1, o2⟩ := okS_of ho
  obtain ⟨f3, r3, st3⟩ := (r2.pushE (d := .int z) rep_int).put (s := i) o2
  exact ⟨x, y, z, rfl, rfl, ez, hp _ G' H' f3 (st2.trans st3) (.set o1) r3⟩
/-- x[j1][j2] op= e, x[j] op= e, all by looks -/
theorem satS_saug2 {s : Nat} {p : P2} {t1 t2 te : TE} {j1 j2 a : E} (h1 : SatP X t1 (evP j1)) (h2 : SatP X t2 (evP j2)) (ha : SatP X te (evP a)) :
    SatS X W io (tAugS (tOp (rIx X.K) (tVar s) t1) t2 te (fun o i H Q => rIxL X.K o i H Q) (rAug p) rSetL) (fun rs => ob (evP (.ix (.ix (.var s) j1) j2) rs) fun o => ob (asInt o) fun x => ob (evP a rs) fun b => ob (asInt b) fun y => ob (augI p x y) fun z => ob (sto2 s (evP j1 rs) (evP j2 rs) (.int z) rs) fun rs2 => some (.nx rs2)) := by
  intro rs r e sg G H fp Dn hR hp
  dsimp only at e
  obtain ⟨o, eo, e⟩ := ob_some e
  obtain ⟨x, ex, e⟩ := ob_some e
  obtain ⟨b, eb, e⟩ := ob_some e
  obtain ⟨y, ey, e⟩ := ob_some e
  obtain ⟨z, ez, e⟩ := ob_some e
  obtain ⟨rs2, es, e⟩ := ob_some e
  cases e
  cases asInt_of ex
  cases asInt_of ey
  have hg := satG_sto2 (X := X) (io := io) (s := s) h1 h2 (.int z) rs rs2 es (.int z) sg G H [] [] fp (fun sg' H' => Dn.nx sg' H') (hR.pushE rep_int) fun sg' H' f' st kp r' => hp sg' G H' f' st kp r'
  -- the same walk, with the item read and written
  unfold sto2 at es
  obtain ⟨d1, ej1, es⟩ := ob_some es
  obtain ⟨k1, ek1, es⟩ := ob_some es
  obtain ⟨d2, ej2, es⟩ := ob_some es
  obtain ⟨k2, ek2, es⟩ := ob_some es
  obtain ⟨l, el, es⟩ := ob_some es
  obtain ⟨xs, exs, es⟩ := ob_some es
  obtain ⟨i1, hi1, es⟩ := ob_some es
  obtain ⟨m, em, es⟩ := ob_some es
  obtain ⟨ys, eys, es⟩ := ob_some es
  obtain ⟨i2, hi2, es⟩ := ob_some es
  cases es
  cases ownItems_of exs
  cases ownItems_of eys
  cases asInt_of ek1
  cases asInt_of ek2
  obtain ⟨vx, hv⟩ := hR.val el (by intro z; cases z)
  refine ⟨vx, hv, ?_⟩
  refine h1 rs _ ej1 sg G H _ _ fp _ hR fun w hw => ?_
  cases vw_int hw
  have r1 := hR.take el hv
  obtain ⟨p', vs, w, rfl, hp', hl, hw, r2⟩ := r1.out em
  obtain ⟨g1, g2, a1, b1, c1, e1⟩ := r2.top
  have a1' := a1
  simp only [Rep] at a1
  obtain ⟨q, us, g3, rfl, hq, hr, nq, eq⟩ := a1
  have hpq : p' ≠ q := fun z => by
    subst z
    obtain ⟨g3, g4, a2, _, _, e2⟩ := b1.top
    simp only [Rep] at a2
    obtain ⟨_, _, _, y1, _, _, _, y2⟩ := a2
    cases y1
    exact c1 p' ((eq p').2 (.inl rfl)) ((e2 p').2 (.inl ((y2 p').2 (.inl rfl))))
  have hat : atI vs k1 = some (.ref q) := by
    unfold atI
    rw [hl, hi1]; exact hw
  refine ix_of (.inl (.inl (.inl hp'))) hat ?_
  refine h2 rs _ ej2 sg G H _ _ fp _ hR fun w hw2 => ?_
  cases vw_int hw2
  -- the item
  have hitem : ys[i2]? = some (.int x) := by
    simp only [evP] at eo
    obtain ⟨q1, eq1, eo⟩ := ob_some eo
    obtain ⟨q2, eq2, eo⟩ := ob_some eo
    rw [ej2] at eq2; cases eq2
    obtain ⟨q3, eq3, eq1⟩ := ob_some eq1
    obtain ⟨q4, eq4, eq1⟩ := ob_some eq1
    rw [ej1] at eq4; cases eq4
    simp only [el, isUn, Bool.false_eq_true, if_false, Option.some.injEq] at eq3
    subst eq3
    simp only [at2, fz, itemsOf, fzs_map] at eq1
    unfold atI at eq1
    rw [List.length_map, hi1] at eq1
    simp only [Option.bind_some, List.getElem?_map, em, Option.map_some, Option.some.injEq, fz] at eq1
    subst eq1
    simp only [at2, itemsOf, fzs_map] at eo
    unfold atI at eo
    rw [List.length_map, hi2] at eo
    simp only [Option.bind_some, List.getElem?_map] at eo
    obtain ⟨d, hd, ed⟩ := Option.map_eq_some_iff.mp eo
    cases d <;> first | (cases ed; done) | skip
    cases ed
    exact hd
  obtain ⟨w3, f3, q1, q2, q3⟩ := reps_item hr hitem
  have ew3 : w3 = .int x := by simp only [Rep] at q2; exact q2.1
  subst ew3
  have hat2 : atI us k2 = some (.int x) := by
    unfold atI
    rw [← reps_len hr, hi2]; exact q1
  refine ⟨q, us, k2, _, rfl, rfl, .inl (.inl hq), hat2, ?_⟩
  refine ha rs _ eb sg G H _ _ fp _ hR fun w hw3 => ?_
  cases vw_int hw3
  refine ⟨x, y, z, rfl, rfl, ez, q, us, k2, i2, rfl, rfl, hq, by rw [← reps_len hr]; exact hi2, ?_⟩
  obtain ⟨q', us', eqq, hq', hul, f4, r4, st4⟩ := (r2.pushE (d := .int z) (v := .int z) rep_int).putL i2
  cases eqq
  rw [hq] at hq'; cases hq'
  obtain ⟨f5, r5, st5⟩ := r4.inn (p := p') (vs := vs) (j := i1) (by rw [upd_ne hpq]; exact hp') hw
  rw [List.set_set] at r5
  obtain ⟨f6, r6, st6⟩ := r5.back hv
  rw [List.set_set] at r6
  exact hp sg G _ f6 ((st4.trans st5).trans st6) (Kp.refl _ _) r6
end
end Pv

set_option maxHeartbeats 2000000
namespace Pv
open PySem PySem.Spec PyProof.Rows L2
/-! ### fields stored, lists with a new head -/
def putFD (f : Str) (d : D) : List Str → List D → List Str × List D
  | g :: ns, x :: xs => if g = f then (g :: ns, d :: xs) else (g :: (putFD f d ns xs).1, x :: (putFD f d ns xs).2)
  | _, _ => ([f], [d])
section
variable {K : Fr} {mg : Str → Option Value} {G G' H H' : Hp} {fp f1 f2 : FP} {ts : List D} {tv : List V} {rs : List D} {sg : L2.St}
theorem reps_putF {f : Str} {d : D} {v : V} (hd : Rep K mg G H d v (fun _ => False)) : ∀ {fs : List (Str × V)} {xs : List D} {f2 : FP}, Reps K mg G H xs (fs.map (·.2)) f2 →
    (putF f v fs).map (·.1) = (putFD f d (fs.map (·.1)) xs).1 ∧ ∃ f3, Reps K mg G H (putFD f d (fs.map (·.1)) xs).2 ((putF f v fs).map (·.2)) f3 ∧ ∀ a, f3 a → f2 a
  | [], [], f2, h => ⟨rfl, fun _ => False, by
    simp only [putFD, putF, List.map_cons, List.map_nil, Reps]
    exact ⟨_, _, hd, fun _ z => z, fun _ z => z.elim, fun a => by simp⟩, fun _ z => z.elim⟩
  | (g, w) :: fs, x :: xs, f2, h => by
    simp only [List.map_cons, Reps] at h
    obtain ⟨g1, g2, k1, k2, k3, k4⟩ := h
    by_cases e : g = f
    · subst e
      simp only [putFD, putF, List.map_cons, if_true]
      refine ⟨trivial, g2, ?_, fun a z => (k4 a).2 (.inr z)⟩
      simp only [Reps]
      exact ⟨_, g2, hd, k2, fun _ z => z.elim, fun a => by simp⟩
    · obtain ⟨i1, f3, i2, i3⟩ := reps_putF (f := f) hd k2
      simp only [putFD, putF, List.map_cons, if_neg e]
      refine ⟨by rw [i1], fun a => g1 a ∨ f3 a, ?_, fun a z => (k4 a).2 (z.imp id (i3 a))⟩
      simp only [Reps]
      exact ⟨g1, f3, k1, i2, fun a ha hb => k3 a ha (i3 a hb), fun _ => Iff.rfl⟩
  | [], _ :: _, _, h => by simp [Reps] at h
  | _ :: _, [], _, h => by simp [Reps] at h
theorem Step.setO {p Ca dx : Addr} {fs : List (Str × V)} {o : HO} (hp : H p = some (.ins Ca dx fs)) (hf : fp p) {fp' : FP} (h : ∀ a, fp' a → fp a) : Step K G H fp G (upd H p o) fp' := by
  refine ⟨fun a u e n => ?_, fun a vs e => ?_, fun a z => .inr (h a z), fun _ _ e => e, fun _ _ e => .inl e⟩
  · rw [upd_ne fun z => n (by rw [z]; exact hf)]; exact e
  · have ne : ∀ u, H a = some u → u ≠ .ins Ca dx fs → upd H p o a = some u := fun u q z => by
      rw [upd_ne fun w => z (by subst w; rw [hp] at q; cases q; rfl)]; exact q
    rcases e with (e | ⟨u, e⟩) | e
    · exact .inl (.inl (ne _ e (by intro z; cases z)))
    · exact .inl (.inr ⟨u, ne _ e (by intro z; cases z)⟩)
    · exact .inr e
theorem R.setO {d : D} {v vx : V} {C f : Str} {ns : List Str} {xs : List D} (r : R K mg G H (d :: .obj true C ns xs :: ts) (v :: vx :: tv) rs sg fp) (hz : isFz d = true) :
    ∃ (p Ca dx : Addr) (fs : List (Str × V)), vx = .ref p ∧ mg C = some (.ref Ca) ∧ H p = some (.ins Ca dx fs) ∧ fs.map (·.1) = ns ∧ ∃ fp' : FP,
      R K mg G (upd H p (.ins Ca dx (putF f v fs))) (.obj true C (putFD f d ns xs).1 (putFD f d ns xs).2 :: ts) (.ref p :: tv) rs sg fp' ∧ Step K G H fp G (upd H p (.ins Ca dx (putF f v fs))) fp' := by
  obtain ⟨f1, f2, h1, r2, dj, e⟩ := r.top
  have h1' : Rep K mg G H d v (fun _ => False) := rep_iff h1 fun a => ⟨fun z => rep_emp d hz h1 a z, fun z => z.elim⟩
  obtain ⟨g1, g2, k1, r3, dj2, e2⟩ := r2.top
  simp only [Rep] at k1
  obtain ⟨p, Ca, dx, fs, g3, rfl, hm, hp, hns, kx, np, e3⟩ := k1
  obtain ⟨q0, f3, q1, q2⟩ := reps_putF (f := f) h1' kx
  rw [hns] at q0 q1
  refine ⟨p, Ca, dx, fs, rfl, hm, hp, hns, ?_⟩
  generalize hws : putF f v fs = ws at q0 q1
  have pf : fp p := (e p).2 (.inr ((e2 p).2 (.inl ((e3 p).2 (.inl rfl)))))
  have n3 : ¬ f3 p := fun z => np (q2 p z)
  have tu : ∀ a us, SqT K H a us → SqT K (upd H p (.ins Ca dx ws)) a us := (Step.setO (K := K) (G := G) (fp := fp) (o := .ins Ca dx ws) hp pf (fp' := fp) fun _ z => z).tups
  have kp : ∀ a o, a ≠ p → H a = some o → upd H p (.ins Ca dx ws) a = some o := fun a o h h2 => by rw [upd_ne h]; exact h2
  have r4 := r3.mono (H' := upd H p (.ins Ca dx ws)) tu (fun a o ha h => kp a o (fun z => dj2 p ((e3 p).2 (.inl rfl)) (z ▸ ha)) h) (fun a o h => kp a o (fun z => (r.sub a o h).2 (z ▸ pf)) (r.sub a o h).1)
  have h2 : Rep K mg G (upd H p (.ins Ca dx ws)) (.obj true C (putFD f d ns xs).1 (putFD f d ns xs).2) (.ref p) (fun a => a = p ∨ f3 a) := by
    simp only [Rep]
    exact ⟨p, Ca, dx, ws, f3, rfl, hm, upd_same, q0, reps_mono (fun _ _ h => h) tu _ (fun a o ha h => kp a o (fun z => n3 (z ▸ ha)) h) q1, n3, fun _ => Iff.rfl⟩
  have le : ∀ a, (a = p ∨ f3 a) → fp a := fun a z => by
    rcases z with z | z
    · rw [z]; exact pf
    · exact (e a).2 (.inr ((e2 a).2 (.inl ((e3 a).2 (.inr (q2 a z))))))
  refine ⟨_, r4.push h2 (fun a ha hb => ?_) (fun a o hg ha => (r.sub a o hg).2 (le a ha)), .setO hp pf fun a z => ?_⟩
  · rcases ha with ha | ha
    · exact dj2 a ((e3 a).2 (.inl ha)) hb
    · exact dj2 a ((e3 a).2 (.inr (q2 a ha))) hb
  · rcases z with z | z
    · exact le a z
    · exact (e a).2 (.inr ((e2 a).2 (.inr z)))
/-- x.insert(0, d) -/
theorem R.insL {d : D} {v : V} {xs : List D} {vx : V} (r : R K mg G H (d :: .lst true xs :: ts) (v :: vx :: tv) rs sg fp) :
    ∃ (p : Addr) (vs : List V), vx = .ref p ∧ H p = some (.lst vs) ∧ vs.length = xs.length ∧ ∃ fp' : FP,
      R K mg G (upd H p (.lst (v :: vs))) (.lst true (d :: xs) :: ts) (.ref p :: tv) rs sg fp' ∧ Step K G H fp G (upd H p (.lst (v :: vs))) fp' :=
  r.setL (fun vs => v :: vs) fun {vs f1 f2} h1 h2 dj => by
    refine ⟨fun a => f1 a ∨ f2 a, ?_, fun _ z => z⟩
    simp only [Reps]
    exact ⟨f1, f2, h1, h2, dj, fun _ => Iff.rfl⟩
end
section
variable {X : Cx} {W : WX} {c : Ce} {km : Nat} {io : List Nat}
/-- x.f = e, x a slot -/
def stofD (s : Nat) (C f : Str) (d : D) (rs : List D) : Option (List D) := match rs[s]? with
  | some (.obj true C' ns xs) => if C' = C ∧ ns.length < 900 then some (rs.set s (.obj true C (putFD f d ns xs).1 (putFD f d ns xs).2)) else none
  | _ => none
theorem satS_stof {s : Nat} {C f : Str} {te : TE} {ev : List D → Option (Res D)} (hC : ClsHas (gvOf X) C [f]) (h : Sat X W te ev) : SatS X W io (sFld X.K (tVar s) te f) (fun rs => thenE (ev rs) fun d rs1 => ob (stofD s C f (fz d) rs1) fun rs2 => some (.nx rs2)) := by
  intro rs r e sg G H fp Dn hR hp
  dsimp only at e
  refine sat_then (f := fun d rs1 => ob (stofD s C f (fz d) rs1) fun rs2 => some (.nx rs2)) (g := fun v sg H' => tVar s sg H' fun x H2 => ∃ a C dx fs, x = .ref a ∧ H2 a = some (.ins C dx fs) ∧ Cls X.K C ∧ NoAttr X.K C f ∧ fs.length < 1000 ∧ Dn.nx sg (upd H2 a (.ins C dx (putF f v fs)))) h e hR hp fun d rs1 _ e v G' H' f' st r' hp => ?_
  obtain ⟨rs2, ea, eb⟩ := ob_some e
  cases eb
  unfold stofD at ea
  split at ea
  case h_2 => cases ea
  rename_i C' ns xs el
  split at ea
  case isFalse => cases ea
  rename_i hh
  obtain ⟨rfl, hlen⟩ := hh
  cases ea
  obtain ⟨vx, hv⟩ := r'.val el (by intro z; cases z)
  obtain ⟨G1, f1, r1, st1⟩ := r'.fz
  have r2 := (r1.take el hv).swap
  obtain ⟨p, Ca, dx, fs, rfl, hm, hpp, hns, f3, r3, st3⟩ := r2.setO (f := f) (isFz_fz d)
  obtain ⟨f4, r4, st4⟩ := r3.back hv
  rw [List.set_set] at r4
  obtain ⟨Ca', hm', hc, hn⟩ := hC.ex
  have hm2 : X.mg C' = some (.ref Ca') := hm'
  rw [hm] at hm2
  cases hm2
  have hlf : fs.length < 1000 := by
    have e := congrArg List.length hns
    rw [List.length_map] at e
    omega
  exact ⟨_, hv, p, Ca, dx, fs, rfl, hpp, hc, hn f (by simp), hlf, hp sg G1 _ f4 ((st1.trans st3).trans st4) (Kp.refl _ _) r4⟩
/-- x.insert(0, e) -/
def ins1 (s : Nat) (d : D) (rs : List D) : Option (List D) := ob rs[s]? fun l => ob (ownItems l) fun xs => if xs.length < 1000000 then some (rs.set s (.lst true (d :: xs))) else none
def rInsert : V → List V → Hp → VK → Prop := fun x vs H Q => ∃ (l : Addr) (xs : List V) (i : Int) (y : V), x = .ref l ∧ vs = [.int i, y] ∧ H l = some (.lst xs) ∧ xs.length < sizeLine ∧ 0 ≤ i ∧ i < 2 ^ 63 ∧
    Q .non (upd H l (.lst (xs.take i.toNat ++ [y] ++ xs.drop i.toNat)))
theorem satS_ins {s : Nat} {te : TE} {ev : List D → Option (Res D)} (h : Sat X W te ev) : SatS X W io (tDrop (tBM X.K "list" rInsert (tVar s) (runs [tC (.int 0), te]))) (fun rs => if isOwnL s rs then thenE (ev rs) fun d rs1 => ob (ins1 s d rs1) fun rs2 => some (.nx rs2) else none) := by
  intro rs r e sg G H fp Dn hR hp
  dsimp only at e
  split at e
  case isFalse => cases e
  rename_i hl
  unfold isOwnL at hl
  split at hl
  case h_2 => cases hl
  rename_i o ys el
  obtain ⟨vx, hv⟩ := hR.val el (by intro z; cases z)
  obtain ⟨p0, vs0, rfl, hs0, _⟩ := vw_lst (show Vw X.K X.mg H (.lst false (fzs ys)) vx from hR.view el hv)
  refine ⟨_, hv, .inl ⟨rfl, _, hs0⟩, ?_⟩
  show te sg H fun v H' => rInsert (.ref p0) [.int 0, v] H' fun _ H2 => Dn.nx sg H2
  refine sat_then (f := fun d rs1 => ob (ins1 s d rs1) fun rs2 => some (.nx rs2)) (g := fun v sg H' => rInsert (.ref p0) [.int 0, v] H' fun _ H2 => Dn.nx sg H2) h e hR hp fun d rs1 _ e v G' H' f' st r' hp => ?_
  obtain ⟨rs2, ea, eb⟩ := ob_some e
  cases eb
  unfold ins1 at ea
  obtain ⟨l, el2, ec⟩ := ob_some ea
  obtain ⟨xs, ex, ed⟩ := ob_some ec
  split at ed
  case isFalse => cases ed
  rename_i hlen
  cases ed
  cases ownItems_of ex
  have r1 := (r'.take el2 hv).swap
  obtain ⟨p, vs, e1, hpp, hvl, f2, r2, st2⟩ := r1.insL
  cases e1
  obtain ⟨f3, r3, st3⟩ := r2.back hv
  rw [List.set_set] at r3
  refine ⟨p0, vs, 0, v, rfl, rfl, hpp, by rw [hvl]; exact Nat.lt_of_lt_of_le hlen (by decide), by decide, by decide, ?_⟩
  exact hp sg G' _ f3 (st2.trans st3) (Kp.refl _ _) r3
end
end Pv

set_option maxHeartbeats 2000000
namespace Pv
open PySem PySem.Spec PyProof.Rows L2
/-! ### an entry found among the entries of a list, changed where it stands -/
def aliB (w : D) : D → Option Bool
  | .lst true [_, _, .lst _ cs] => match w with
    | .lst false ws => dEq (.lst false (fzs cs)) (.lst false ws)
    | _ => none
  | _ => none
def aliBs (w : D) : List D → Option (List Bool)
  | [] => some []
  | x :: xs => match aliB w x, aliBs w xs with
    | some b, some bs => some (b :: bs)
    | _, _ => none
def firstT : List Bool → Option Nat
  | [] => none
  | true :: _ => some 0
  | false :: bs => (firstT bs).map (· + 1)
def selV {α : Type} : List Bool → List α → List α
  | true :: bs, v :: vs => v :: selV bs vs
  | false :: bs, _ :: vs => selV bs vs
  | _, _ => []
/-- the two statements -/
def aliD (io : List Nat) (o l e u p : Nat) (els : List D → Option Fl) (rs : List D) : Option Fl :=
  ob (evP (.var u) rs) fun w => ob rs[l]? fun L => ob (ownItems L) fun xs => ob (aliBs w xs) fun bs =>
    if okS io rs.length o && (decide (e < rs.length) && decide (xs.length < 1000000)) then match firstT bs with
      | none => els ((rs.set e .un).set o (.lst true []))
      | some i => ob (evP (.var p) rs) fun pz => ob (asInt pz) fun z => match xs[i]? with
        | some (.lst true (.int a :: ys)) => some (.nx (((rs.set e .un).set o .un).set l (.lst true (xs.set i (.lst true (.int (a + z) :: ys))))))
        | _ => none
    else none
def tEvPB (K : Fr) (mg : Str → Option Value) (ev : List D → Option D) : TT := fun sg H Q => ∃ rs b G ts tv fp, ev rs = some (.bl b) ∧ R K mg G H ts tv rs sg fp ∧ Q b H
theorem aliBs_len {w : D} : ∀ {xs : List D} {bs : List Bool}, aliBs w xs = some bs → bs.length = xs.length
  | [], bs, h => by cases h; rfl
  | x :: xs, bs, h => by
    simp only [aliBs] at h
    split at h
    · rename_i b bs' _ h2
      cases h
      simp [aliBs_len h2]
    · cases h
theorem aliBs_at {w : D} : ∀ {xs : List D} {bs : List Bool} {i : Nat} {x : D}, aliBs w xs = some bs → xs[i]? = some x → ∃ b, bs[i]? = some b ∧ aliB w x = some b
  | x :: xs, bs, 0, y, h, e => by
    simp only [aliBs] at h
    split at h
    · rename_i b bs' h1 h2
      cases h
      cases e
      exact ⟨b, rfl, h1⟩
    · cases h
  | x :: xs, bs, i + 1, y, h, e => by
    simp only [aliBs] at h
    split at h
    · rename_i b bs' h1 h2
      cases h
      obtain ⟨b', q1, q2⟩ := aliBs_at (i := i) h2 (by simpa using e)
      exact ⟨b', by simpa using q1, q2⟩
    · cases h
  | [], _, _, _, _, e => by simp at e
theorem sel_snoc {α : Type} : ∀ {bs : List Bool} {vs : List α} {i : Nat} {b : Bool} {v : α}, bs[i]? = some b → vs[i]? = some v → selV (bs.take (i + 1)) (vs.take (i + 1)) = selV (bs.take i) (vs.take i) ++ (if b then [v] else [])
  | c :: bs, x :: vs, 0, b, v, h1, h2 => by
    cases h1; cases h2
    cases c <;> simp [selV]
  | c :: bs, x :: vs, i + 1, b, v, h1, h2 => by
    have ih := sel_snoc (bs := bs) (vs := vs) (i := i) (b := b) (v := v) (by simpa using h1) (by simpa using h2)
    cases c
    · simpa [selV] using ih
    · simp only [List.take_succ_cons, selV, ih, List.cons_append]
  | [], _, _, _, _, h1, _ => by simp at h1
  | _ :: _, [], _, _, _, _, h2 => by simp at h2
theorem sel_none {α : Type} : ∀ {bs : List Bool} (vs : List α), firstT bs = none → selV bs vs = []
  | [], vs, _ => by cases vs <;> rfl
  | true :: bs, vs, h => by cases h
  | false :: bs, [], h => rfl
  | false :: bs, v :: vs, h => sel_none vs (Option.map_eq_none_iff.mp h)
theorem sel_some {α : Type} : ∀ {bs : List Bool} {vs : List α} {i : Nat} {v : α}, firstT bs = some i → vs[i]? = some v → ∃ r, selV bs vs = v :: r
  | true :: bs, x :: vs, 0, v, _, e => by cases e; exact ⟨_, rfl⟩
  | false :: bs, x :: vs, i, v, h, e => by
    obtain ⟨j, hj, rfl⟩ := Option.map_eq_some_iff.mp h
    obtain ⟨r, hr⟩ := sel_some (bs := bs) (vs := vs) (i := j) (v := v) hj (by simpa using e)
    exact ⟨r, by simpa only [selV] using hr⟩
  | [], _, _, _, h, _ => by cases h
  | true :: _, [], _, _, _, e => by simp at e
  | false :: _, [], _, _, _, e => by simp at e
  | true :: _, _ :: _, _ + 1, _, h, _ => by cases h
theorem sel_le {α : Type} : ∀ (bs : List Bool) (vs : List α), (selV bs vs).length ≤ vs.length
  | true :: bs, v :: vs => by simp only [selV, List.length_cons]; exact Nat.succ_le_succ (sel_le bs vs)
  | false :: bs, v :: vs => by simp only [selV, List.length_cons]; exact Nat.le_succ_of_le (sel_le bs vs)
  | [], vs => by cases vs <;> simp [selV]
  | true :: bs, [] => by simp [selV]
  | false :: bs, [] => by simp [selV]
section
variable {K : Fr} {mg : Str → Option Value} {G G' H H' : Hp} {fp f1 f2 : FP} {ts : List D} {tv : List V} {rs : List D} {sg : L2.St}
theorem reps_uns : ∀ vs : List V, Reps K mg G H (List.replicate vs.length .un) vs (fun _ => False)
  | [] => by simp [Reps]
  | v :: vs => by
    simp only [List.length_cons, List.replicate_succ, Reps]
    exact ⟨fun _ => False, fun _ => False, by simp [Rep], reps_uns vs, fun _ z => z.elim, fun a => by simp⟩
end
section
variable {X : Cx} {W : WX} {c : Ce} {km : Nat} {io : List Nat}
theorem ixN_zero (n : Nat) : ixN (n + 1) 0 = some 0 := by
  unfold L2.ixN
  rw [if_pos (by decide), if_pos (by omega)]
  rfl
theorem atI_zero {α : Type} (x : α) (l : List α) : atI (x :: l) 0 = some x := by
  unfold L2.atI
  rw [List.length_cons, ixN_zero]
  rfl
theorem aliB_inv {w x : D} {b : Bool} (h : aliB w x = some b) : ∃ a1 a2 o cs ws, x = .lst true [a1, a2, .lst o cs] ∧ w = .lst false ws ∧ dEq (.lst false (fzs cs)) (.lst false ws) = some b := by
  unfold aliB at h
  split at h
  · split at h
    · exact ⟨_, _, _, _, _, rfl, rfl, h⟩
    · cases h
  · cases h
theorem satS_ali {o l e u p : Nat} {tt2 : TT} {te : TE} {tels : TS} {els : List D → Option Fl} (hoe : o ≠ e) (hol : o ≠ l) (hou : o ≠ u) (hop : o ≠ p) (hel : e ≠ l) (heu : e ≠ u) (hep : e ≠ p) (hlu : l ≠ u) (hlp : l ≠ p)
    (h2 : SatPT X tt2 (evP (.op2 .gt (.fnc .len (.cons (.var o) .nil)) (.con (.int 0))))) (he : SatP X te (evP (.op2 .add (.ix (.ix (.var o) (.con (.int 0))) (.con (.int 0))) (.var p)))) (hs : SatS X W io tels els) :
    SatS X W io (tSeq (tAsg (tLc (iList X.K (tVar l)) (gName e) (tEvPB X.K X.mg (evP (.op2 .eq (.ix (.var e) (.con (.int 2))) (.var u)))) (tVar e) [e]) (gName o))
      (tIfS tt2 (tAsg te (gSub (tOp (rIx X.K) (tVar o) (tC (.int 0))) (tC (.int 0)) rSetL)) tels)) (aliD io o l e u p els) := by
  intro rs r er sg G H fp Dn hR hp
  unfold aliD at er
  obtain ⟨w, ew, er1⟩ := ob_some er
  obtain ⟨L, eL, er2⟩ := ob_some er1
  obtain ⟨xs, ex, er3⟩ := ob_some er2
  obtain ⟨bs, eb, er4⟩ := ob_some er3
  clear er er1 er2 er3
  split at er4
  case isFalse => cases er4
  rename_i hc
  obtain ⟨ho, hc⟩ := ands hc
  obtain ⟨hel', hlen⟩ := ands hc
  have hel' : e < rs.length := of_decide_eq_true hel'
  have hlen : xs.length < 1000000 := of_decide_eq_true hlen
  obtain ⟨ho1, ho2⟩ := okS_of ho
  cases ownItems_of ex
  obtain ⟨vl, hvl⟩ := hR.val eL (by intro z; cases z)
  have hsl : rs.length = sg.length := hR.len
  -- the list of the entries
  have rl := hR.take eL hvl
  obtain ⟨la, vs, rfl, hla, hvs⟩ : ∃ la vs, vl = .ref la ∧ H la = some (.lst vs) ∧ vs.length = xs.length := by
    obtain ⟨g1, g2, a1, _, _, _⟩ := rl.top
    simp only [Rep] at a1
    obtain ⟨a, us, _, e1, h1, hr, _⟩ := a1
    exact ⟨a, us, e1, h1, (reps_len hr).symm⟩
  have hbl := aliBs_len eb
  refine ⟨.ref la, hvl, la, rfl, ⟨vs, .inl (.inl hla)⟩, fun An hD => ?_⟩
  have hlaA : la ≠ An := ne_of_none hla hD
  have hg : ∀ (us : List V) a ob', H a = some ob' → upd H An (.lst us) a = some ob' := fun us a ob' h => by rw [upd_ne (ne_of_none h hD)]; exact h
  refine lc_list (K := X.K) (a := la) (xs := vs) (fun i H' => H' = upd H An (.lst (selV (bs.take i) (vs.take i)))) (by simp [selV]) (fun i H' _ hH => ?_) (fun i x H' hx hH => ?_) (fun H' hH => ?_)
  · subst hH
    exact .inl (.inl (by rw [upd_ne hlaA]; exact hla))
  · subst hH
    have hil : i < xs.length := by rw [← hvs]; exact (List.getElem?_eq_some_iff.mp hx).1
    obtain ⟨d, hd⟩ : ∃ d, xs[i]? = some d := ⟨_, List.getElem?_eq_getElem hil⟩
    obtain ⟨b, hb1, hb2⟩ := aliBs_at eb hd
    obtain ⟨a1, a2, o3, cs, wl, rfl, rfl, hq⟩ := aliB_inv hb2
    have st : Step X.K G H fp G (upd H An (.lst (selV (bs.take i) (vs.take i)))) fp := .ext (hg _)
    have r1 := rl.mono st.tups (fun a ob' _ h => hg _ a ob' h) fun a ob' h => hg _ a ob' (rl.sub a ob' h).1
    obtain ⟨p0, vs0, w0, e0, hp0, hl0, hw0, r2⟩ := r1.out hd
    cases e0
    rw [upd_ne hlaA, hla] at hp0
    cases hp0
    rw [hx] at hw0
    cases hw0
    obtain ⟨f3, r3, st3⟩ := r2.wipes (own := [e])
    obtain ⟨f4, r4, st4⟩ := r3.put (s := e) (by simp [wipeD, hel'])
    refine ⟨by simp [wipe, List.set_set], ?_⟩
    refine ⟨_, b, _, _, _, _, ?_, r4, ?_⟩
    · have g1 : ((wipeD (rs.set l .un) [e]).set e (.lst true [a1, a2, .lst o3 cs]))[e]? = some (.lst true [a1, a2, .lst o3 cs]) := by
        rw [List.getElem?_set_self (by simp [wipeD, hel'])]
      have g2 : ((wipeD (rs.set l .un) [e]).set e (.lst true [a1, a2, .lst o3 cs]))[u]? = rs[u]? := by
        rw [List.getElem?_set_ne heu]
        simp only [wipeD]
        rw [List.getElem?_set_ne heu, List.getElem?_set_ne hlu]
      have g3 : evP (.var u) ((wipeD (rs.set l .un) [e]).set e (.lst true [a1, a2, .lst o3 cs])) = some (.lst false wl) := by
        simp only [evP, g2] at ew ⊢
        exact ew
      have g4 : evP (.ix (.var e) (.con (.int 2))) ((wipeD (rs.set l .un) [e]).set e (.lst true [a1, a2, .lst o3 cs])) = some (.lst false (fzs cs)) := by
        simp only [evP, g1, ob]
        rfl
      show ob (evP (.ix (.var e) (.con (.int 2))) _) (fun x => ob (evP (.var u) _) fun y => scOnly (d2 .eq x y)) = _
      rw [g4]
      show ob (evP (.var u) _) (fun y => scOnly (d2 .eq (.lst false (fzs cs)) y)) = _
      rw [g3]
      show scOnly ((dEq (.lst false (fzs cs)) (.lst false wl)).map .bl) = _
      rw [hq]
      rfl
    · have hwx : ((wipe sg [e]).set e (some x))[e]? = some (some x) := by
        rw [List.getElem?_set_self (by rw [wipe_length]; omega)]
      have hsn := sel_snoc hb1 hx
      cases b with
      | true =>
        refine ⟨x, hwx, _, upd_same, ?_, ?_⟩
        · have := sel_le (bs.take i) (vs.take i)
          have h3 : (vs.take i).length ≤ xs.length := by rw [List.length_take]; omega
          exact Nat.lt_of_lt_of_le (show (selV (bs.take i) (vs.take i)).length < 1000000 by omega) (by decide)
        · rw [hsn]
          funext a
          unfold upd
          by_cases z : a = An <;> simp [z]
      | false =>
        show _ = _
        rw [hsn]
        simp
  · subst hH
    rw [List.take_of_length_le (by omega : bs.length ≤ vs.length), List.take_of_length_le (Nat.le_refl _)]
    -- the found ones stand in the new list
    generalize hws : selV bs vs = ws
    obtain ⟨f1, r1, st1⟩ := hR.newL' (p := An) (reps_uns ws) (fun _ z => z.elim) (fun _ _ _ z => z) hD
    have st1' : Step X.K G H fp G (upd H An (.lst ws)) f1 := ⟨fun a ob' h n => st1.keep a ob' h (fun z => z.elim id n), st1.tups, fun a z => (st1.new a z).imp id (fun q => q.elim (fun w => w.elim) id), st1.grow, fun a ob' h => .inl h⟩
    obtain ⟨f2, r2, st2⟩ := r1.setUn (i := e) (sg.getD e none)
    have se : sg.set e (sg.getD e none) = sg := set_same (by rw [List.getD_eq_getElem?_getD, List.getElem?_eq_getElem (by omega)]; rfl)
    rw [se] at r2
    obtain ⟨f3, r3, st3⟩ := r2.put (s := o) (by simpa using ho2)
    have hDw : upd H An (.lst ws) An = some (.lst ws) := upd_same
    have hlw : upd H An (.lst ws) la = some (.lst vs) := by rw [upd_ne hlaA]; exact hla
    have hso : (sg.set o (some (V.ref An)))[o]? = some (some (.ref An)) := List.getElem?_set_self (by omega)
    have hslv : (sg.set o (some (V.ref An)))[l]? = some (some (.ref la)) := by rw [List.getElem?_set_ne hol]; exact hvl
    have st13 := (st1'.trans st2).trans st3
    have k13 : Kp io sg (sg.set o (some (V.ref An))) := .set ho1
    have e1o : ((rs.set e .un).set o (.lst true (List.replicate ws.length .un)))[o]? = some (.lst true (List.replicate ws.length .un)) := List.getElem?_set_self (by simpa using ho2)
    have e1l : ((rs.set e .un).set o (.lst true (List.replicate ws.length .un)))[l]? = some (.lst true xs) := by rw [List.getElem?_set_ne hol, List.getElem?_set_ne hel]; exact eL
    have fzu : ∀ n, fzs (List.replicate n D.un) = List.replicate n D.un := fun n => by
      induction n with
      | zero => rfl
      | succ n ih => simp only [List.replicate_succ, fzs, fz, ih]
    -- is there one?
    have t2 : evP (.op2 .gt (.fnc .len (.cons (.var o) .nil)) (.con (.int 0))) ((rs.set e .un).set o (.lst true (List.replicate ws.length .un))) = some (.bl (decide (0 < (ws.length : Int)))) := by
      simp only [evP, evPs, e1o, ob, isUn, Bool.false_eq_true, if_false, fz, fzu]
      show scOnly (some (D.bl (decide ((0 : Int) < ((List.replicate ws.length D.un).length : Int))))) = _
      rw [List.length_replicate]
      rfl
    refine h2 _ _ _ t2 rfl _ G _ _ _ f3 _ r3 ?_
    split at er4
    · rename_i hn
      have hw0 : ws = [] := by rw [← hws]; exact sel_none vs hn
      subst hw0
      simp only [List.length_nil, List.replicate_zero, Int.ofNat_eq_natCast] at r3 ⊢
      rw [if_neg (by decide)]
      exact hs _ r er4 _ G _ f3 Dn r3 (hp.step st13 k13)
    · rename_i i hn
      obtain ⟨pz, epz, er5⟩ := ob_some er4
      obtain ⟨z, ez, er6⟩ := ob_some er5
      cases asInt_of ez
      split at er6
      case h_2 => cases er6
      rename_i a ys hxi
      cases er6
      have hil : i < vs.length := by rw [hvs]; exact (List.getElem?_eq_some_iff.mp hxi).1
      obtain ⟨wi, hwi⟩ : ∃ wi, vs[i]? = some wi := ⟨_, List.getElem?_eq_getElem hil⟩
      obtain ⟨wr, hwr⟩ := sel_some hn hwi
      rw [hws] at hwr
      have hpos : decide ((0 : Int) < (ws.length : Int)) = true := by
        rw [hwr, List.length_cons]
        exact decide_eq_true (by omega)
      rw [hpos, if_pos rfl]
      -- the entry on the pile
      have ra := r3.take e1l hslv
      obtain ⟨p0, vs0, w0, e0, hp0, hl0, hw0, rb⟩ := ra.out hxi
      cases e0
      rw [hlw] at hp0
      cases hp0
      rw [hwi] at hw0
      cases hw0
      obtain ⟨q, us, ewi, hq, hus⟩ : ∃ q us, wi = .ref q ∧ upd H An (.lst ws) q = some (.lst us) ∧ us.length = ys.length + 1 := by
        obtain ⟨g1, g2, b1, _, _, _⟩ := rb.top
        simp only [Rep] at b1
        obtain ⟨q, us, _, e1, h1, hr, _⟩ := b1
        exact ⟨q, us, e1, h1, by have := reps_len hr; simpa using this.symm⟩
      subst ewi
      have hlq : la ≠ q := fun z => by
        subst z
        obtain ⟨g1, g2, b1, b2, b3, b4⟩ := rb.top
        obtain ⟨g3, g4, b5, _, _, b6⟩ := b2.top
        simp only [Rep] at b1 b5
        obtain ⟨_, _, _, y1, _, _, _, y2⟩ := b1
        obtain ⟨_, _, _, z1, _, _, _, z2⟩ := b5
        cases y1; cases z1
        exact b3 _ ((y2 _).2 (.inl rfl)) ((b6 _).2 (.inl ((z2 _).2 (.inl rfl))))
      -- .. seen through the new list
      have hol' : ((((rs.set e .un).set o (.lst true (List.replicate ws.length .un))).set l .un))[o]? = some (.lst true (List.replicate ws.length .un)) := by rw [List.getElem?_set_ne (Ne.symm hol)]; exact e1o
      have rc := (rb.take hol' hso).swap
      have hw0' : ws[0]? = some (V.ref q) := by rw [hwr]; rfl
      obtain ⟨f4, rd, _⟩ := rc.inn hDw hw0'
      obtain ⟨f5, re, _⟩ := rd.back hso
      have hrep : (List.replicate ws.length D.un).set 0 (.lst true (.int a :: ys)) = .lst true (.int a :: ys) :: List.replicate wr.length .un := by
        rw [hwr, List.length_cons, List.replicate_succ]; rfl
      rw [hrep] at re
      refine he _ (.int (a + z)) ?_ _ G _ _ _ f5 _ re fun v hv => ?_
      · generalize hrs : ((((rs.set e .un).set o (.lst true (List.replicate ws.length .un))).set l .un).set o .un).set o (.lst true (.lst true (.int a :: ys) :: List.replicate wr.length .un)) = rsB
        have b1 : rsB[o]? = some (.lst true (.lst true (.int a :: ys) :: List.replicate wr.length .un)) := by rw [← hrs]; exact List.getElem?_set_self (by simpa using ho2)
        have b2 : rsB[p]? = rs[p]? := by rw [← hrs, List.getElem?_set_ne hop, List.getElem?_set_ne hop, List.getElem?_set_ne hlp, List.getElem?_set_ne hop, List.getElem?_set_ne hep]
        have b3 : evP (.var p) rsB = some (.int z) := by
          simp only [evP, b2] at epz ⊢
          exact epz
        have b4 : evP (.ix (.ix (.var o) (.con (.int 0))) (.con (.int 0))) rsB = some (.int a) := by
          simp only [evP, b1, ob, isUn, Bool.false_eq_true, if_false, fz, fzs, fzu, at2, itemsOf, atI_zero]
        show ob (evP (.ix (.ix (.var o) (.con (.int 0))) (.con (.int 0))) rsB) (fun x => ob (evP (.var p) rsB) fun y => scOnly (d2 .add x y)) = _
        rw [b4]
        show ob (evP (.var p) rsB) (fun y => scOnly (d2 .add (.int a) y)) = _
        rw [b3]
        rfl
      · cases vw_int hv
        refine ⟨.ref An, hso, ?_⟩
        refine ix_of (k := 0) (w := .ref q) (.inl (.inl (.inl hDw))) (by rw [hwr]; exact atI_zero _ _) ?_
        -- the store
        obtain ⟨q', us', e1, hq', hl', f6, r6, st6⟩ := (rb.pushE (d := .int (a + z)) (v := .int (a + z)) rep_int).putL 0
        cases e1
        rw [hq] at hq'
        cases hq'
        refine ⟨q, us, 0, 0, rfl, rfl, hq, by rw [hus]; exact ixN_zero _, ?_⟩
        have hlw' : upd (upd H An (.lst ws)) q (.lst (us.set 0 (.int (a + z)))) la = some (.lst vs) := by rw [upd_ne hlq]; exact hlw
        obtain ⟨f7, r7, st7⟩ := r6.inn hlw' hwi
        obtain ⟨f8, r8, st8⟩ := r7.back hslv
        obtain ⟨f9, r9, st9⟩ := r8.setUn (i := o) (some (.ref An))
        rw [set_same hso] at r9
        have es : (((((rs.set e .un).set o (.lst true (List.replicate ws.length .un))).set l .un).set l (.lst true ((xs.set i .un).set i (.lst true ((D.int a :: ys).set 0 (.int (a + z))))))).set o .un) = (((rs.set e .un).set o .un).set l (.lst true (xs.set i (.lst true (.int (a + z) :: ys))))) := by
          rw [List.set_set, List.set_set, List.set_cons_zero, List.set_comm _ _ (Ne.symm hol), List.set_set]
        rw [es] at r9
        exact hp _ G _ f9 ((((st13.trans st6).trans st7).trans st8).trans st9) k13 r9
end
end Pv

set_option maxHeartbeats 2000000
namespace Pv
open PySem PySem.Spec PySem.W PySem.Calls PyProof.Rows PySem.HandSPX L2 Builtin.ObjectAttr
/-! ### the program's own exception classes -/
abbrev aeT : List Value := [.type "ArithmeticError", .type "Exception", .type "BaseException", .type "object"]
/-- self.f = f, one after another -/
def initB (sc : Scope) : List Str → List Stmt → Bool
  | [], [] => true
  | f :: fs, .Assign [.Attribute (.Name s _) g _] (.Name p _) _ :: r => ((decide (s = ("self" : Str)) && (decide (g = f) && decide (p = f))) && ((sc.names.lookup f == some .local) && (f != ("__debug__" : Str)))) && initB sc fs r
  | _, _ => false
structure XC (K : Fr) (mg : Str → Option Value) (C : Str) (ns : List Str) (Ca fI : Addr) : Prop where
  gC : mg C = some (.ref Ca)
  mkC : excInitIn K Ca aeT "ArithmeticError.__new__" = true
  ov : excOver K Ca aeT = true
  sa : findIn K (.ref Ca) "__setattr__" = some (some (.builtin "object.__setattr__"))
  iC : findIn K (.ref Ca) "__init__" = some (some (.ref fI))
  tC : typeIn K (.ref fI) = some (.type "function")
  kC : keepIn K (.ref Ca) = true
  exC : subIn K (.ref Ca) (.type "BaseException") = some true
  tyC : typeIn K (.ref Ca) = some (.type "type")
  hdC : hasDictIn K Ca = true
  no : ∀ f ∈ ns, findIn K (.ref Ca) f = some none
  fn : ∃ (x qual : Str) (params : Arguments) (body : List Stmt) (scope : Scope) (fd : FuncData), FunD K x qual params body scope [] [] fI fd ∧ initB scope ns body = true ∧ Binds K fd ("self" :: ns) [] ∧
    scope.isCoroutine = false ∧ scope.isGenerator = false ∧ scope.kind = .function ∧ scope.names.lookup ("self" : Str) = some .local
  nd : (("self" : Str) :: ns).Nodup
  ne : ns ≠ []
  few : ns.length ≤ 100
/-- the names f become v -/
def putF (m : Str → Option Value) : List Str → List Value → Str → Option Value
  | f :: fs, v :: vs => putF (fun y => if y = f then some v else m y) fs vs
  | _, _ => m
section
variable {prog : Program} {w : World} {A : Around} {E : Value → Shared → Prop} {K : Fr} {mg : Str → Option Value} {C : Str} {ns : List Str} {Ca fI : Addr}
/-- the first store lays the dict -/
theorem exc_first {hp : Heap} {g : Array GenState} {d : Drawn} {t : Nat} {os : OsState} {R : Result → Shared → Prop} (T : XC K mg C ns Ca fI) {f : Str} (hf : f ∈ ns) {tk : Tok} {v : Value} {x : Addr} {fv : Array Value}
    (X : K.In hp) (hx : hp.get? x = some { cls := .ref Ca, data := .fields fv })
    (hq : ∀ h' tk' dx, (∀ b o, b ≠ x → hp.get? b = some o → h'.get? b = some o) → hp.objs.size ≤ dx → dx ≠ x → h'.get? x = some { cls := .ref Ca, dict := some dx, data := .fields fv } →
      h'.Ns1 dx (fun y => if y = f then some v else none) → R (.ok (.ret .none)) ⟨h', g, d, tk', os⟩) :
    codeAny (model prog w) A (.call (.builtin "object.__setattr__") ⟨[.ref x, .str f tk, v], []⟩) R ⟨hp, g, d, t, os⟩ := by
  have tki : takerIn K Ca f = some none := by unfold takerIn; rw [T.no f hf]; rfl
  refine osa_openX (od := none) F.store_ArithmeticError X ⟨hx, rfl, rfl, trivial⟩ T.ov tki fun b => ?_
  obtain ⟨cd, hc, hd⟩ := any_some T.hdC
  have hcls : Looks (model prog w) hp (classData Ca) cd := looks_clsIn X hc
  have hxs : x ≠ hp.objs.size := Nat.ne_of_lt (Heap.lt_size hx)
  obtain ⟨nm, bs, mro, nn, qn, hdd, sn, sb, ab, col, del⟩ := cd
  dsimp only at hd
  subst hd
  show wpAny _ _ (storeInOwnDict (.ref x) (.ref Ca) (.str f tk) f v b) _ _ _
  unfold storeInOwnDict ownDictForStores
  repeat (first | with_reducible refine store_in_new ?_ ?_ | with_reducible refine wpAny_loadPart_at hx ?_ | with_reducible refine hcls.at ?_ | wp_step)
  · exact ⟨_, #[], _, (Heap.get?_update_ne _ _ _ _ hxs.symm).trans (Heap.get?_push_at rfl rfl), rfl, fun e he => absurd he (by simp), fun _ => rfl⟩
  · intro h' tk' hn' hs
    have hx1 : (hp.push { cls := .type "dict", data := .dict #[] }).get? x = some { cls := .ref Ca, data := .fields fv } := Heap.get?_push_of_some _ hx
    refine hq h' tk' hp.objs.size (fun c o hb ho => ?_) (Nat.le_refl _) hxs.symm ?_ hn'
    · exact (hs.2 c (Nat.ne_of_lt (Heap.lt_size ho))).trans ((Heap.get?_update_ne _ _ _ _ hb).trans (Heap.get?_push_of_some _ ho))
    · exact (hs.2 x hxs).trans (Heap.get?_update_self _ hx1 rfl)
/-- a later one -/
theorem exc_later {hp : Heap} {g : Array GenState} {d : Drawn} {t : Nat} {os : OsState} {R : Result → Shared → Prop} (T : XC K mg C ns Ca fI) {f : Str} (hf : f ∈ ns) {tk : Tok} {v : Value} {x dx : Addr} {fv : Array Value} {m0 : Str → Option Value} {nl : List Str}
    (X : K.In hp) (hx : hp.get? x = some { cls := .ref Ca, dict := some dx, data := .fields fv }) (hn : hp.Ns1 dx m0) (hw : Within m0 nl) (hz : nl.length ≤ 1000)
    (hq : ∀ h' tk', (∀ b o, b ≠ dx → hp.get? b = some o → h'.get? b = some o) → h'.Ns1 dx (fun y => if y = f then some v else m0 y) → R (.ok (.ret .none)) ⟨h', g, d, tk', os⟩) :
    codeAny (model prog w) A (.call (.builtin "object.__setattr__") ⟨[.ref x, .str f tk, v], []⟩) R ⟨hp, g, d, t, os⟩ := by
  have tki : takerIn K Ca f = some none := by unfold takerIn; rw [T.no f hf]; rfl
  obtain ⟨oD, esD, epD, hoD, hdD, _⟩ := hn.count hw
  refine osa_openX (od := some oD) F.store_ArithmeticError X ⟨hx, rfl, rfl, hoD⟩ T.ov tki fun b => ?_
  obtain ⟨cd, hc, hd⟩ := any_some T.hdC
  have hcls : Looks (model prog w) hp (classData Ca) cd := looks_clsIn X hc
  obtain ⟨nm, bs, mro, nn, qn, hdd, sn, sb, ab, col, del⟩ := cd
  dsimp only at hd
  subst hd
  show wpAny _ _ (storeInOwnDict (.ref x) (.ref Ca) (.str f tk) f v b) _ _ _
  unfold storeInOwnDict ownDictForStores
  repeat (first | with_reducible refine PySem.OEX.store_in_old hn hw hz ?_ | with_reducible refine wpAny_loadPart_at hx ?_ | with_reducible refine hcls.at ?_ | wp_step)
  intro h' tk' hn' hs
  exact hq h' tk' (fun c o hb ho => (hs.2 c hb).trans ho) hn'
/-- the names of the frame -/
theorem ld_own {M : Model} {s : Shared} {qual : Str} {scope : Scope} {L a : Addr} {cd : Value} {m : Str → Option Value} {x : Str} {pos : Pos} {v : Value} {Q : Value → Shared → Prop} (hk : scope.kind = .function) (hl : scope.names.lookup x = some .local) (hd : (x == ("__debug__" : Str)) = false)
    (hn : s.heap.Ns L m) (hv : m x = some v) (h : Q v s) : wpAny M A (eval (.Name x pos) (envOfC qual scope L a cd)) Q E s := wpAny_Name (wpAny_loadName_local hk hl hn hv h) hd
theorem init_parts {sc : Scope} {f : Str} {fs : List Str} {body : List Stmt} (h : initB sc (f :: fs) body = true) : ∃ p1 p2 p3 p4 r, body = .Assign [.Attribute (.Name "self" p1) f p2] (.Name f p3) p4 :: r ∧ sc.names.lookup f = some .local ∧ (f == ("__debug__" : Str)) = false ∧ initB sc fs r = true := by
  cases body with
  | nil => simp [initB] at h
  | cons s r =>
    unfold initB at h
    split at h
    · rename_i e; cases e
    · rename_i f' fs' s' p1 g p2 p p3 p4 r' e1 e2
      cases e1
      cases e2
      simp only [Bool.and_eq_true, decide_eq_true_eq, beq_iff_eq, bne_iff_ne] at h
      obtain ⟨⟨⟨rfl, rfl, rfl⟩, h2, h3⟩, h4⟩ := h
      exact ⟨p1, p2, p3, p4, r, rfl, h2, by simpa using h3, h4⟩
    · cases h
/-- the further fields -/
theorem init_rest (T : XC K mg C ns Ca fI) {qual : Str} {scope : Scope} {L fa : Addr} {cdv : Value} {x dx : Addr} {fv : Array Value} {m : Str → Option Value} (hk : scope.kind = .function) (hself : scope.names.lookup ("self" : Str) = some .local) (ms : m "self" = some (.ref x)) :
    ∀ (fs : List Str) (us : List Value) (body : List Stmt) (m0 : Str → Option Value) (nl : List Str) (s : Shared), initB scope fs body = true → (∀ f ∈ fs, f ∈ ns) → fs.length = us.length → (∀ (i : Nat) (f : Str) (u : Value), fs[i]? = some f → us[i]? = some u → m f = some u) →
    K.In s.heap → s.heap.Ns L m → L ≠ dx → s.heap.get? x = some { cls := .ref Ca, dict := some dx, data := .fields fv } → x ≠ dx → s.heap.Ns1 dx m0 → Within m0 nl → nl.length + fs.length ≤ 1000 → K.lookup dx = none →
    ∀ (Q : Flow → Shared → Prop), (∀ h' tk', (∀ b o, b ≠ dx → s.heap.get? b = some o → h'.get? b = some o) → h'.Ns1 dx (putF m0 fs us) → Q .next { s with heap := h', toks := tk' }) →
    wpAny (model prog w) A (execs body (envOfC qual scope L fa cdv)) Q E s
  | [], us, body, m0, nl, s, hb, hin, hl, hm, X, hn, hLd, hx, hxd, hns, hw, hz, hkd, Q, hq => by
    cases us with
    | cons _ _ => cases hl
    | nil =>
      cases body with
      | cons _ _ => simp [initB] at hb
      | nil =>
        refine wpAny_execs_nil ?_
        have q := hq s.heap s.toks (fun b o _ e => e) hns
        exact q
  | f :: fs, us, body, m0, nl, s, hb, hin, hl, hm, X, hn, hLd, hx, hxd, hns, hw, hz, hkd, Q, hq => by
    cases us with
    | nil => cases hl
    | cons u us =>
      obtain ⟨p1, p2, p3, p4, r, rfl, hlf, hdf, hr⟩ := init_parts hb
      obtain ⟨oD, _, _, hoD, _, _⟩ := hns.count hw
      refine wpAny_execs_cons (plainObj_wpAny_Assign_Attribute ?_)
      refine ld_own hk hlf hdf hn (hm 0 f u rfl rfl) (ld_own hk hself (by decide) hn ms ?_)
      obtain ⟨hp, g, d, t, os⟩ := s
      refine set_plain X (ox := { cls := .ref Ca, dict := some dx, data := .fields fv }) (od := some oD) ⟨hx, rfl, rfl, hoD⟩ T.sa ?_
      refine exc_later T (hin f List.mem_cons_self) X hx hns hw (by simp only [List.length_cons] at hz; omega) fun h1 tk1 k1 n1 => ?_
      have X1 : K.In h1 := fun a o e => k1 a o (fun z => by rw [z, hkd] at e; cases e) (X a o e)
      refine init_rest T hk hself ms fs us r _ (f :: nl) ⟨h1, g, d, tk1, os⟩ hr (fun f' hf' => hin f' (List.mem_cons_of_mem _ hf')) (by simpa using hl) (fun i f' u' e1 e2 => hm (i + 1) f' u' (by simpa using e1) (by simpa using e2)) X1 (hn.at fun o e => k1 L o hLd e) hLd (k1 x _ hxd hx) hxd n1 (Within.cons f u hw) (by simp only [List.length_cons] at hz ⊢; omega) hkd Q fun h' tk' k' n' => hq h' tk' (fun b o hb e => k' b o hb (k1 b o hb e)) n'
/-- what __init__ leaves -/
structure InitEnd (h h' : Heap) (x Ca dx t1 : Addr) (ns : List Str) (us : List Value) : Prop where
  keep : ∀ b o, b ≠ x → h.get? b = some o → h'.get? b = some o
  obj : h'.get? x = some { cls := .ref Ca, dict := some dx, data := .fields #[.ref t1, .none, .none, .none, .bool false, .none] }
  dbig : h.objs.size ≤ dx
  dne : dx ≠ x
  ns : h'.Ns1 dx (putF (fun _ => none) ns us)
theorem fresh_key {K : Fr} {h : Heap} {a : Addr} (X : K.In h) (hb : h.objs.size ≤ a) : K.lookup a = none := by
  cases e : K.lookup a with
  | none => rfl
  | some o => exact absurd (Heap.lt_size (X _ _ e)) (Nat.not_lt.mpr hb)
theorem exc_init {s : Shared} {R : Result → Shared → Prop} (T : XC K mg C ns Ca fI) {x t0 : Addr} {us : List Value} (hus : us.length = ns.length) (X : K.In s.heap) (hlim : s.heap.NoLimit) (hx : s.heap.get? x = some (excO Ca t0)) (hnx : K.lookup x = none) (hroom : A.depth < recursionLimit)
    (hq : ∀ h' tk dx, InitEnd s.heap h' x Ca dx t0 ns us → R (.ok (.ret .none)) { s with heap := h', toks := tk }) :
    codeAny (model prog w) A (.call (.ref fI) ⟨.ref x :: us, []⟩) R s := by
  obtain ⟨nm, qual, params, body, scope, fd, F, hb, hbind, hco, hgen, hkind, hself⟩ := T.fn
  obtain ⟨oc, od, dV, kV, doc, pm, an, cdv, ct, osl, rfl, lk, hcd, _, _⟩ := F.ex
  have bd := hbind s (.ref x :: us) X (by simp [hus])
  rw [List.append_nil] at bd
  have hloc : ∀ f ∈ ns, scope.names.lookup f = some .local := by
    have key : ∀ (fs : List Str) (b : List Stmt), initB scope fs b = true → ∀ f ∈ fs, scope.names.lookup f = some .local := by
      intro fs
      induction fs with
      | nil => intro b _ f hf; cases hf
      | cons g fs ih =>
        intro b h f hf
        obtain ⟨_, _, _, _, r, _, hlf, _, hr⟩ := init_parts h
        rcases List.mem_cons.mp hf with rfl | hf
        · exact hlf
        · exact ih r hr f hf
    exact key ns body hb
  refine Att.call_fn X hlim lk hcd hroom bd ?_ (fun s₁ IC => ?_) hco hgen hkind
  · rw [List.all_eq_true]
    intro y hy
    have hm : y.1 ∈ (("self" : Str) :: ns) := (List.of_mem_zip hy).1
    rcases List.mem_cons.mp hm with e | e
    · rw [e, hself]; rfl
    · rw [hloc _ e]; rfl
  obtain ⟨h₁, tk₁, rfl⟩ := IC.toInCall.same
  have k : ∀ b o, s.heap.get? b = some o → h₁.get? b = some o := IC.toInCall.keep
  have hn := IC.toInCall.ns
  have hL : s.heap.objs.size ≠ x := Nat.ne_of_gt (Heap.lt_size hx)
  have X₁ : K.In h₁ := X.keeps k
  have hx₁ := k _ _ hx
  have zL : s.heap.objs.size < h₁.objs.size := hn.lt
  have get : ∀ (i : Nat) (f : Str) (u : Value), (("self" : Str) :: ns)[i]? = some f → (Value.ref x :: us)[i]? = some u → scope.names.lookup f = some .local → bindL (envOfC qual scope s.heap.objs.size fI cdv).kindOf ((("self" : Str) :: ns).zip (.ref x :: us)) (fun _ => none) f = some u := fun i f u e1 e2 e3 => bindL_get T.nd e1 e2 e3
  have ms := get 0 "self" (.ref x) rfl rfl hself
  cases hns : ns with
  | nil => exact absurd hns T.ne
  | cons f fs =>
    cases hu : us with
    | nil => rw [hns, hu] at hus; cases hus
    | cons u us' =>
      have hb' := hb
      rw [hns] at hb'
      obtain ⟨p1, p2, p3, p4, r, rfl, hlf, hdf, hr⟩ := init_parts hb'
      refine wpAny_execs_cons (plainObj_wpAny_Assign_Attribute ?_)
      refine ld_own hkind hlf hdf hn (get 1 f u (by rw [hns]; rfl) (by rw [hu]; rfl) hlf) (ld_own hkind hself (by decide) hn ms ?_)
      refine set_plain X₁ (ox := excO Ca t0) (od := none) ⟨hx₁, rfl, rfl, trivial⟩ T.sa ?_
      refine exc_first T (by rw [hns]; exact List.mem_cons_self) X₁ hx₁ fun h₃ tk₃ dx k₃ dn dne hx₃ hn₃ => ?_
      have nLx : s.heap.objs.size ≠ x := hL
      have nLd : s.heap.objs.size ≠ dx := Nat.ne_of_lt (Nat.lt_of_lt_of_le zL dn)
      have kd : K.lookup dx = none := fresh_key X₁ dn
      have X₃ : K.In h₃ := fun a o e => k₃ a o (fun z => by rw [z, hnx] at e; cases e) (X₁ a o e)
      refine init_rest T hkind hself ms fs us' r _ [f] ⟨h₃, s.gens, s.drawn, tk₃, s.os⟩ hr (fun g hg => by rw [hns]; exact List.mem_cons_of_mem _ hg) (by rw [hns, hu] at hus; simpa using hus.symm)
        (fun i g v e1 e2 => ?_) X₃ (hn.at fun o e => k₃ _ o nLx e) nLd hx₃ dne.symm hn₃ (Within.cons f u Within.nil) (by have := T.few; rw [hns] at this; simp only [List.length_cons, List.length_nil] at this ⊢; omega) kd _ fun h' tk' k' n' => ?_
      · have e1' : ns[i + 1]? = some g := by rw [hns]; simpa using e1
        have e2' : us[i + 1]? = some v := by rw [hu]; simpa using e2
        exact get (i + 2) g v (by simpa using e1') (by simpa using e2') (hloc g (List.mem_of_getElem? e1'))
      · refine hq h' tk' dx ⟨fun b o hb e => ?_, k' x _ dne.symm hx₃, Nat.le_of_lt (Nat.lt_of_lt_of_le zL dn), dne, by rw [hns, hu]; exact n'⟩
        refine k' b o (fun z => ?_) (k₃ b o hb (k b o e))
        rw [z] at e
        exact absurd (Heap.lt_size e) (Nat.not_lt.mpr (Nat.le_of_lt (Nat.lt_of_lt_of_le zL dn)))
/-- C(..) -/
structure OwnMade (h h' : Heap) (e Ca d : Addr) (ns : List Str) (us : List Value) : Prop where
  keep : ∀ b o, h.get? b = some o → h'.get? b = some o
  new : h.objs.size ≤ e
  obj : ∃ oe vs, h'.get? e = some oe ∧ oe.cls = .ref Ca ∧ oe.dict = some d ∧ oe.data = .fields vs ∧ vs[1]? = some .none
  dbig : h.objs.size ≤ d
  dne : d ≠ e
  ns : h'.Ns1 d (putF (fun _ => none) ns us)
theorem exc_made {s : Shared} {R : Result → Shared → Prop} (T : XC K mg C ns Ca fI) {us : List Value} (hus : us.length = ns.length) (X : K.In s.heap) (hlim : s.heap.NoLimit) (hroom : A.depth + 1 < recursionLimit)
    (hq : ∀ h' tk e d, OwnMade s.heap h' e Ca d ns us → R (.ok (.ret (.ref e))) { s with heap := h', toks := tk }) :
    codeAny (model prog w) A (.call (.ref Ca) ⟨us, []⟩) R s := by
  obtain ⟨nm, N, qn, bs, bm, hdct, sn, sub, ab, col, dd, k0, k1, k2, k3, k5, hC, hT⟩ := excInit_of X T.mkC
  obtain ⟨hp, g, dr, tk, os⟩ := s
  have k : ∀ b o, hp.get? b = some o → ((hp.push (kdv_tup us)).push (excO Ca hp.objs.size)).get? b = some o := fun b o e => Heap.get?_push_of_some _ (Heap.get?_push_of_some _ e)
  have hget : ((hp.push (kdv_tup us)).push (excO Ca hp.objs.size)).get? (hp.objs.size + 1) = some (excO Ca hp.objs.size) := by heap_get
  have hnx : K.lookup (hp.objs.size + 1) = none := fresh_key X (Nat.le_succ _)
  refine HandSPX.call_own F.excBase_ArithmeticError hT hC (looks_findIn X T.iC) (fun self => bind_fn X self T.tC) (by have := T.few; rw [hus, sizeLine_eq]; omega) ?_
  refine exc_init (s := ⟨(hp.push (kdv_tup us)).push (excO Ca hp.objs.size), g, dr, tk, os⟩) T hus (X.keeps k) (hlim.keeps k) hget hnx ?_ fun h' tk' dx ⟨k', hx, dn, dne, hns⟩ => ?_
  · show A.depth + 1 < recursionLimit
    exact hroom
  · have old : ∀ b o, hp.get? b = some o → h'.get? b = some o := fun b o e => k' b o (Nat.ne_of_lt (Nat.lt_succ_of_lt (Heap.lt_size e))) (k b o e)
    have z : hp.objs.size + 1 + 1 ≤ dx := by
      first
        | (simpa only [Heap.size_push] using dn)
        | exact dn
        | (have q := dn; rw [Heap.size_push, Heap.size_push] at q; exact q)
    exact ⟨rfl, hq h' tk' (hp.objs.size + 1) dx ⟨old, Nat.le_succ _, ⟨_, _, hx, rfl, rfl, rfl, rfl⟩, Nat.le_trans (Nat.le_trans (Nat.le_succ _) (Nat.le_succ _)) z, dne, hns⟩⟩
end
theorem relO_skip {m m' : Str → Option Value} : ∀ (fs : List Str) (us : List Value) (g : Str), g ∉ fs → putF m fs us g = m g
  | [], us, g, _ => by cases us <;> rfl
  | f :: fs, [], g, _ => rfl
  | f :: fs, u :: us, g, h => by
    show putF _ fs us g = m g
    rw [relO_skip (m' := m') fs us g fun z => h (List.mem_cons_of_mem _ z)]
    exact if_neg fun z => h (by rw [z]; exact List.mem_cons_self)
theorem relO_put' : ∀ (fs : List Str) (vs : List V) (us : List Value) (m : Str → Option Value) (g : Str), fs.Nodup → Vals vs us → fs.length = us.length → (g ∉ fs → m g = none) → RelO ((fs.zip vs).lookup g) (putF m fs us g)
  | [], vs, us, m, g, nd, r, hl, h => by
    have e : putF m [] us g = m g := by cases us <;> rfl
    rw [e, h (fun z => by cases z)]
    trivial
  | f :: fs, vs, us, m, g, nd, r, hl, h => by
    cases r with
    | nil => cases hl
    | @cons v u vs us r1 r2 =>
      show RelO (((f, v) :: fs.zip vs).lookup g) (putF (fun y => if y = f then some u else m y) fs us g)
      obtain ⟨n1, n2⟩ := List.nodup_cons.mp nd
      by_cases hg : g = f
      · subst hg
        rw [relO_skip (m' := m) fs us g n1]
        have e1 : ((g, v) :: fs.zip vs).lookup g = some v := by simp [List.lookup]
        rw [e1, if_pos rfl]
        exact r1
      · have e1 : ((f, v) :: fs.zip vs).lookup g = (fs.zip vs).lookup g := by
          have q : (g == f) = false := by simpa using hg
          simp [List.lookup, q]
        rw [e1]
        refine relO_put' fs vs us _ g n2 r2 (by simpa using hl) fun hn => ?_
        show (if g = f then some u else m g) = none
        rw [if_neg hg]
        exact h fun z => (List.mem_cons.mp z).elim hg hn
/-- an own class may be raised -/
structure ExcHas (X : Gv) (C : Str) (ns : List Str) : Prop where
  ex : ∃ Ca fI, XC X.K X.mg C ns Ca fI ∧ (C == ("__debug__" : Str)) = false
theorem mk_exc {X : Cx} {C : Str} {ns : List Str} {Ca fI : Addr} (T : XC X.K X.mg C ns Ca fI) (hr : Room 1 X.A) (hd : (C == ("__debug__" : Str)) = false) {e : Expr} {es : List Expr} {tes : List TE} {p pos : Pos} (hg : Gl X C) (hps : PEs X (e :: es) tes) (hst : ∀ x ∈ e :: es, nst x = true) :
    PMk X (.Call (.Name C p) (e :: es) [] pos) (fun σ H Q => runs tes σ H fun vs H1 => vs.length = ns.length ∧ ∀ d, H1 d = none → Q (.ref Ca) (some d) (upd H1 d (.xd (ns.zip vs)))) := by
  intro pins s σ H Q I h
  have star := star_nst (hst e List.mem_cons_self) es X.env
  refine wpAny_Call_Name_kw (ld_glob I hg T.gC ?_ hd)
  refine callWith_K (h₀ := X.base) I.ok.mod.kin T.kC (thn ((pa_of hps hst).run pos pins s σ H _ I h) fun us s1 hh => ?_) star (back_nst (fun x hx => hst x (List.mem_cons_of_mem _ hx)) _ _)
  obtain ⟨vs, H1, I1, r1, hl, q1⟩ := hh
  refine ⟨I1.kIn, ?_⟩
  have hus : us.length = ns.length := by rw [← r1.length]; exact hl
  show wpAny _ _ (call (.ref Ca) us) _ _ _
  have hlim := I1.nolimit
  obtain ⟨hp, g, dr, tk, os⟩ := s1
  refine wpAny_call (exc_made T hus I1.kIn hlim (by have := hr.dp; omega) fun h' tk' e d M => ?_)
  show MkP X pins σ Q (.ref e) ⟨h', g, dr, tk', os⟩
  obtain ⟨oe, fv, hoe, hc, hd, hdat, h1⟩ := M.obj
  have hns := M.ns
  obtain ⟨G', g1, g2⟩ := restrict h' fun b => decide (b ≠ e)
  have gk : ∀ b, b ≠ e → G'.get? b = h'.get? b := fun b hb => g1 b (decide_eq_true hb)
  have ge : G'.get? e = none := g2 e (by simp)
  have old : ∀ b o, hp.get? b = some o → G'.get? b = some o := fun b o q => (gk b (Nat.ne_of_lt (Nat.lt_of_lt_of_le (Heap.lt_size q) M.new))).trans (M.keep b o q)
  have ob : ObjOk X.prog X.w (upd H1 d (.xd (ns.zip vs))) G' d (.xd (ns.zip vs)) :=
    ⟨_, hns.at (fun o q => (gk d M.dne).trans q), fun f => relO_put' ns vs us _ f (List.nodup_cons.mp T.nd).2 r1 hus.symm fun _ => rfl⟩
  have J : Inv X pins σ (upd H1 d (.xd (ns.zip vs))) ⟨G', g, dr, tk', os⟩ := I1.laid (t' := tk') old M.dbig ob
  refine ⟨e, oe, fv, ⟨G', g, dr, tk', os⟩, _, .ref Ca, some d, rfl, J, fun b o q => ?_, ge, hoe, ⟨hc, hd⟩, hdat, h1, ?_, rfl, I1.bare, raises_own T.exC T.tyC, q1 d (I1.hok.fresh M.dbig)⟩
  · by_cases hb : b = e
    · have q' : G'.get? b = some o := q
      rw [hb, ge] at q'; cases q'
    · exact (gk b hb).symm.trans q
  · rw [upd_ne (Ne.symm M.dne)]
    exact I1.hok.fresh M.new
end Pv

set_option maxHeartbeats 2000000
namespace Pv
open PySem PySem.Spec PyProof.Rows L2
/-! ### try with several clauses, each with a name or without -/
abbrev SuT := Addr → Value → Option Addr → TS
/-- the ends behind a suite whose name goes -/
def endsAs (i : Nat) (Dn : Ends) : Ends := { nx := fun s h => Dn.nx (s.set i none) h, rt := Dn.rt, bk := fun s h => Dn.bk (s.set i none) h, ct := fun s h => Dn.ct (s.set i none) h }
def suRun (o : Option Nat) (su : SuT) (a : Addr) (cls : Value) (da : Option Addr) : TS := fun Dn sg H => match o with
  | none => su a cls da Dn sg H
  | some i => su a cls da (endsAs i Dn) (sg.set i (some (.ref a))) H
def wG (K : Fr) (W : WX) (Dn : Ends) : List (Value × Option Nat × SuT) → WX
  | [] => W
  | (c, o, su) :: r => fun cls da sg H => ∃ b, PySem.W.exmOne K cls c = some b ∧ (b = true → ∀ a, H a = none → suRun o su a cls da Dn sg H) ∧ (b = false → wG K W Dn r cls da sg H)
inductive HG (X : Cx) : List ExceptHandler → List (Value × Option Nat × SuT) → Prop
  | nil : HG X [] []
  | bare {x : Str} {c : Value} {su : SuT} {b0 : Stmt} {bs : List Stmt} {p q : Pos} {hs : List ExceptHandler} {l : List (Value × Option Nat × SuT)} (nm : Names X x c)
      (run : ∀ (a : Addr) (oe : Obj) (cls : Value) (da : Option Addr) (pn : List (Addr × Obj)), Zc cls da oe → (∃ vs, oe.data = .fields vs) → PSs (X.suite a ((a, oe) :: pn)) (b0 :: bs) (su a cls da)) (rest : HG X hs l) :
      HG X (.ExceptHandler (some (.Name x p)) none (b0 :: bs) q :: hs) ((c, none, su) :: l)
  | named {x n : Str} {i : Nat} {c : Value} {su : SuT} {b0 : Stmt} {bs : List Stmt} {p q : Pos} {hs : List ExceptHandler} {l : List (Value × Option Nat × SuT)} (nm : Names X x c) (at_ : X.N[i]? = some n) (loc : X.env.kindOf n = some .local)
      (run : ∀ (a : Addr) (oe : Obj) (cls : Value) (da : Option Addr) (pn : List (Addr × Obj)), Zc cls da oe → (∃ vs, oe.data = .fields vs) → PSs (X.suite a ((a, oe) :: pn)) (b0 :: bs) (su a cls da)) (rest : HG X hs l) :
      HG X (.ExceptHandler (some (.Name x p)) (some n) (b0 :: bs) q :: hs) ((c, some i, su) :: l)
section
variable {X : Cx} {W : WX}
/-- an exception that none of the clauses names flies on -/
theorem flies_on {pins : List (Addr × Obj)} {sg : L2.St} {H : Hp} {sI st : Shared} {B hq : Heap} {a : Addr} {cls : Value} {da : Option Addr} {R : Flow → Shared → Prop} (stk : X.stack = X.env :: X.outer) (fr : X.env.frame = some X.env.locals) (tk : Takes X W)
    (J : Inv X pins sg H sI) (nb : ∀ b o, sI.heap.get? b = some o → b ∉ frs X.stack → B.get? b = some o) (up : sI.heap.UpToSlots hq) (fl : HandSPX.FlyingZ B (X.env :: X.outer) a (Zc cls da) hq) (na : H a = none) (os : st.os = sI.os) (ag : AllBare st.gens) (w : W cls da sg H) :
    wpAny (model X.prog X.w) X.A (handleBy (.ref a) X.env []) R X.xe { st with heap := hq } := by
  refine wpAny_handleBy_nil ?_
  obtain ⟨_, _, _, oe, fv, T, _, _, there, _, dat, tb, _⟩ := id fl
  have last : wpAny (model X.prog X.w) X.A (setFlight (.ref a) X.env.frame) (fun _ s4 => wpAny (model X.prog X.w) X.A (throw (.ref a) : Sem Flow) R X.xe s4) X.xe { st with heap := hq } := by
    rw [fr]
    refine HandSPX.setFlight_upZ fl fun h4 held up4 => wpAny_throw (tk _ _ ⟨a, B, sI, pins, sg, H, cls, da, rfl, J, nb, up.trans up4, .inr (.inr ?_), na, os, ag, w⟩)
    rw [stk]
    exact held
  unfold PySem.passOn
  refine wpAny_bind (wpAny_field there dat tb ?_)
  rw [if_neg (by simp)]
  first
    | exact wpAny_bind (wpAny_pure (wpAny_bind last))
    | exact wpAny_bind last
/-- A TRY -/
theorem ps_tryG {body : List Stmt} {h0 : ExceptHandler} {hs : List ExceptHandler} {l : List (Value × Option Nat × SuT)} {pos : Pos} {tb : WX → TS} (stk : X.stack = X.env :: X.outer) (fr : X.env.frame = some X.env.locals) (nd : X.N.Nodup) (tk : Takes X W)
    (inner : ∀ (V : WX) (pn : List (Addr × Obj)) (xe : Value → Shared → Prop), Takes (X.tr pn xe) V → PassesOwn (model X.prog X.w) X.A X.env xe → PSs (X.tr pn xe) body (tb V)) (hh : HG X (h0 :: hs) l) :
    PS X (.Try body (h0 :: hs) [] [] pos) (fun Dn sg H => tb (wG X.K W Dn l) Dn sg H) := by
  refine ⟨fun pins s sg H Dn I h => wpAny_Try_except ?_⟩
  have ok := I.ok
  have frs0 : X.A.frames = some (X.env :: X.outer) := ok.frames.trans (by rw [stk])
  refine wpAny_mono ((inner (wG X.K W Dn l) (X.pn ++ pins) (fun e s1 => wpAny (model X.prog X.w) X.A (noteFrame e X.env) (fun _ s2 => wpAny (model X.prog X.w) X.A (setFlight e none)
    (fun _ s3 => wpAny (model X.prog X.w) X.A (handleBy e X.env (h0 :: hs)) (L2.SP X pins Dn) X.xe s3) X.xe s2) X.xe s1) (fun u st air => ?_) PassesOwn.looking).run [] s sg H Dn (I.toTry _) h) (fun f s1 got => ?_) fun e s1 he => he
  · obtain ⟨a, B, sI, pins', sg', H', cls, da, rfl, J0, nb, up, sky, na, os, ag, w⟩ := air
    have J : Inv X pins sg' H' sI := J0.ofTry ok
    have sk : Sky B (X.env :: X.outer) a (Zc cls da) X.env.locals st.heap := stk ▸ sky
    refine Sky.land Zc.steady frs0 fr sk fun h3 fl up3 => ?_
    have J3 : Inv X pins sg' H' { st with heap := h3 } := J.landed nb fl.1 (up.trans up3) os ag
    obtain ⟨oe, fv, there, zc, dat⟩ := fl.there
    have off : a ∉ frs (X.env :: X.outer) := fun hm => by
      obtain ⟨_, o', e', nf⟩ := fl.2.2.1.mem hm
      rw [there] at e'
      cases e'
      exact nf _ dat
    have offL : a ≠ X.env.locals := fun z => off (List.mem_filterMap.mpr ⟨X.env, List.mem_cons_self, by rw [fr, z]⟩)
    have offF : a ∉ X.fs := fun hm => by
      obtain ⟨e, he, q⟩ := List.mem_filterMap.mp hm
      exact off (List.mem_filterMap.mpr ⟨e, List.mem_cons_of_mem _ he, q⟩)
    have S3 := J3.suite there dat na offL offF
    have looks : ∀ {c : Value} {b : Bool}, PySem.W.exmOne X.K cls c = some b → PySem.W.Looks (model X.prog X.w) h3 _ b := fun {c b} eb =>
      PySem.W.exm_one (M := model X.prog X.w) J3.kIn (fun A Q E s k q => wpAny_typeOf_ref (k _ _ there) (by rw [zc.1]; exact q)) eb
    have name : ∀ {x : Str} {c : Value} {p : Pos} {Q : Value → Shared → Prop} {E : Value → Shared → Prop}, Names X x c → Q c { st with heap := h3 } → wpAny (model X.prog X.w) (X.A.mark (some (.ref a))) (eval (.Name x p) X.env) Q E { st with heap := h3 } := fun {x c p Q E} nm q => by
      obtain ⟨hg, hd, hm | ⟨hm, hv, hn⟩⟩ := nm
      · exact ld_glob (X := X.suite a ((a, oe) :: (X.pn ++ pins))) S3 hg hm q hd
      · exact ld_blt (X := X.suite a ((a, oe) :: (X.pn ++ pins))) S3 hg hm hv q hn hd
    have walk : ∀ {hs' : List ExceptHandler} {l' : List (Value × Option Nat × SuT)}, HG X hs' l' → wG X.K W Dn l' cls da sg' H' → wpAny (model X.prog X.w) X.A (handleBy (.ref a) X.env hs') (L2.SP X pins Dn) X.xe { st with heap := h3 } := by
      intro hs' l' hk
      induction hk with
      | nil => exact fun w => flies_on stk fr tk J nb (up.trans up3) fl na os ag w
      | @bare x c su b0 bs p q hs2 l2 nm run rest ih =>
        rintro ⟨b, eb, yes, no⟩
        refine wpAny_handleBy_cons (codeAny_handlers_test ?_) (by intro q; cases q)
        refine name nm ((looks eb).here ?_)
        cases b with
        | false => exact ih (no rfl)
        | true =>
          refine codeAny_handlers_suite (HandSPX.lands_againZ fl fun h4 fl4 up4 => ?_)
          have J4 : Inv X pins sg' H' { st with heap := h4 } := J.landed nb fl4.1 ((up.trans up3).trans up4) os ag
          obtain ⟨o4, v4, e4, z4, d4⟩ := fl4.there
          refine wpAny_mono ((run a o4 cls da (X.pn ++ pins) z4 ⟨_, d4⟩).run [] _ _ H' _ (J4.suite e4 d4 na offL offF) (yes rfl a na)) (fun f s6 got => ?_) fun _ _ z => z.elim
          cases f with
          | ret u =>
            obtain ⟨v6, g6, H6, S6, r6, q6⟩ := got
            exact ⟨_, _, _, S6.unsuite ok, r6, q6⟩
          | next =>
            obtain ⟨g6, H6, S6, q6⟩ := got
            exact ⟨_, _, S6.unsuite ok, q6⟩
          | brk =>
            obtain ⟨g6, H6, S6, q6⟩ := got
            exact ⟨_, _, S6.unsuite ok, q6⟩
          | cont =>
            obtain ⟨g6, H6, S6, q6⟩ := got
            exact ⟨_, _, S6.unsuite ok, q6⟩
      | @named x n i c su b0 bs p q hs2 l2 nm at_ loc run rest ih =>
        rintro ⟨b, eb, yes, no⟩
        refine wpAny_handleBy_cons (codeAny_handlers_test ?_) (by intro q; cases q)
        refine name nm ((looks eb).here ?_)
        cases b with
        | false => exact ih (no rfl)
        | true =>
          refine codeAny_handlers_suite_as (HandSPX.lands_againZ fl fun h4 fl4 up4 => ?_)
          have J4 : Inv X pins sg' H' { st with heap := h4 } := J.landed nb fl4.1 ((up.trans up3).trans up4) os ag
          obtain ⟨o4, v4, e4, z4, d4⟩ := fl4.there
          refine store_ok (X := X.suite a ((a, o4) :: (X.pn ++ pins))) (v := .ref a) (J4.suite e4 d4 na offL offF) nd at_ (.inl loc) rfl (fun s5 S5 => ?_) (.inr loc)
          refine wpAny_mono ((run a o4 cls da (X.pn ++ pins) z4 ⟨_, d4⟩).run [] s5 _ H' _ S5 (yes rfl a na)) (fun f s6 got => ?_) fun _ _ z => z.elim
          have out : ∀ {g6 : L2.St} {H6 : Hp} {Q : Shared → Prop}, Inv (X.suite a ((a, o4) :: (X.pn ++ pins))) [] g6 H6 s6 → (∀ s7, Inv X pins (g6.set i none) H6 s7 → Q s7) →
              wpAny (model X.prog X.w) X.A (do bindName X.env n .none; unbindBehindTheSuite X.env n q) (fun _ s7 => Q s7) X.xe s6 := fun S6 hq => gone_ok (S6.unsuite ok) nd at_ loc hq
          cases f with
          | ret u =>
            obtain ⟨v6, g6, H6, S6, r6, q6⟩ := got
            exact out S6 fun s7 J7 => ⟨_, _, _, J7, r6, q6⟩
          | next =>
            obtain ⟨g6, H6, S6, q6⟩ := got
            exact out S6 fun s7 J7 => ⟨_, _, J7, q6⟩
          | brk =>
            obtain ⟨g6, H6, S6, q6⟩ := got
            exact out S6 fun s7 J7 => ⟨_, _, J7, q6⟩
          | cont =>
            obtain ⟨g6, H6, S6, q6⟩ := got
            exact out S6 fun s7 J7 => ⟨_, _, J7, q6⟩
    exact walk hh w
  · cases f with
    | ret u =>
      obtain ⟨v, g1, H1, J1, r, q⟩ := got
      exact ⟨v, g1, H1, J1.ofTry ok, r, q⟩
    | next =>
      obtain ⟨g1, H1, J1, q⟩ := got
      exact wpAny_execs_nil ⟨g1, H1, J1.ofTry ok, q⟩
    | brk =>
      obtain ⟨g1, H1, J1, q⟩ := got
      exact ⟨g1, H1, J1.ofTry ok, q⟩
    | cont =>
      obtain ⟨g1, H1, J1, q⟩ := got
      exact ⟨g1, H1, J1.ofTry ok, q⟩
end
end Pv

set_option maxHeartbeats 2000000
namespace Pv
open PySem PySem.Spec PyProof.Rows L2
/-! ### what an except suite may tell: a constant, a field of the caught one, whether it is of a class, whether a field is of a type -/
inductive XA where
  | con (d : D)
  | fld (f : Str)
  | isE (B : Str)
  | isF (f : Str) (T : String)
inductive XS where
  | one (a : XA)
  | tup (as : List XA)
def fldOf (x : Exc) (f : Str) : Option D := (x.ns.zip x.xs).lookup f
def evXA (x : Exc) : XA → Option D
  | .con d => some d
  | .fld f => fldOf x f
  | .isE _ => some (.bl true)
  | .isF f T => ob (fldOf x f) (dIs T)
def evXAs (x : Exc) : List XA → Option (List D)
  | [] => some []
  | a :: as => ob (evXA x a) fun d => ob (evXAs x as) fun ds => some (d :: ds)
def evXS (x : Exc) : XS → Option D
  | .one a => evXA x a
  | .tup as => ob (evXAs x as) fun ds => if ds.length ≤ 1000 then some (.tup ds) else none
/-- a clause: the class, the slot of its name, what it answers -/
structure Cl where
  C : Str
  o : Option Nat
  s : XS
def pickX (io : List Nat) (x : Exc) (rs : List D) : List Cl → Option Fl
  | [] => some (.exc x rs)
  | k :: r => if x.C = k.C then ob (evXS x k.s) fun d => match k.o with
      | none => some (.ret d rs)
      | some i => if okS io rs.length i then some (.ret d (rs.set i .un)) else none
    else pickX io x rs r
def slB (c : Ce) (i : Nat) (x : Str) : Bool := decide (c.N[i]? = some x) && visB c.sc x
def gnB (c : Ce) (x y : Str) : Bool := decide (x = y) && glB c.sc x
def chkXA (c : Ce) (fs bs : List Str) (i : Nat) : XA → Expr → Bool
  | .con d, .Constant k _ _ => conB d k
  | .fld f, .Attribute (.Name x _) g _ => slB c i x && (decide (g = f) && fs.contains f)
  | .isE B, .Call (.Name y _) [.Name x _, .Name z _] [] _ => gnB c y "isinstance" && (slB c i x && (gnB c z B && bs.contains B))
  | .isF f T, .Call (.Name y _) [.Attribute (.Name x _) g _, .Name z _] [] _ => gnB c y "isinstance" && (slB c i x && ((decide (g = f) && fs.contains f) && (gnB c z (Str.ofString T) && decide (T = "tuple"))))
  | _, _ => false
def chkXAs (c : Ce) (fs bs : List Str) (i : Nat) : List XA → List Expr → Bool
  | [], [] => true
  | a :: as, e :: es => chkXA c fs bs i a e && chkXAs c fs bs i as es
  | _, _ => false
def chkXS (c : Ce) (fs bs : List Str) (i : Nat) : XS → Expr → Bool
  | .one a, e => chkXA c fs bs i a e
  | .tup as, .Tuple es _ _ => chkXAs c fs bs i as es
  | _, _ => false
def chkCls (c : Ce) (cs fs bs : List Str) : List Cl → List ExceptHandler → Bool
  | [], [] => true
  | k :: r, .ExceptHandler (some (.Name x _)) on [.Return (some e) _] _ :: hs => (gnB c x k.C && cs.contains k.C) && ((match k.o, on with
      | none, none => chkXS c fs bs 100000 k.s e
      | some i, some n => (decide (c.N[i]? = some n) && (c.sc.names.lookup n == some .local)) && chkXS c fs bs i k.s e
      | _, _ => false) && chkCls c cs fs bs r hs)
  | _, _ => false
/-- the classes that may fly, their fields, their bases -/
structure XTab (X : Gv) (cs fs bs : List Str) : Prop where
  ex : ∀ C ∈ cs, ∃ Ca, X.mg C = some (.ref Ca) ∧ L2.XfC X.K Ca ∧ L2.ExcC X.K Ca ∧ (∀ f ∈ fs, PySem.W.findIn X.K (.ref Ca) f = some none) ∧
    (∀ C' ∈ cs, ∃ Cb, X.mg C' = some (.ref Cb) ∧ PySem.W.exmOne X.K (.ref Ca) (.ref Cb) = some (decide (C = C'))) ∧ ∀ B ∈ bs, ∃ Ba, X.mg B = some (.ref Ba) ∧ PySem.W.kitOne X.K (.ref Ca) (.ref Ba) = some true
  isi : X.mg "isinstance" = none
  tup : X.mg (Str.ofString "tuple") = none
/-! ### readings -/
def adr (mg : Str → Option Value) (C : Str) : Addr := match mg C with
  | some (.ref a) => a
  | _ => 0
theorem adr_of {mg : Str → Option Value} {C : Str} {a : Addr} (h : mg C = some (.ref a)) : adr mg C = a := by unfold adr; rw [h]
def vOf : D → V
  | .bl b => .bl b
  | .int i => .int i
  | .str s => .str s
  | _ => .non
/-- isinstance(e, c), e the caught one, whose fields stand -/
def rIsG (K : Fr) (Ca a : Addr) (cls : Value) (da : Option Addr) : List V → Hp → VK → Prop := fun xs H Q => ∃ (c : V) (cv : Value) (b : Bool) (dd : Addr) (fs : List (Str × V)), xs = [.ref a, c] ∧ (∀ u, RelV c u → u = cv) ∧ PySem.W.kitOne K (.ref Ca) cv = some b ∧ cls = .ref Ca ∧ da = some dd ∧ H dd = some (.xd fs) ∧ Q (.bl b) H
def tXA (X : Cx) (Ca : Addr) (i : Nat) (a : Addr) (cls : Value) (da : Option Addr) : XA → TE
  | .con d => tC (vOf d)
  | .fld f => tXf a cls da Ca f (tVar i)
  | .isE B => tCB (rIsG X.K Ca a cls da) (runs [tVar i, tC (.ref (adr X.mg B))])
  | .isF f T => tCB (rIs X T) (runs [tXf a cls da Ca f (tVar i), tC (.ty T)])
def tXS (X : Cx) (Ca : Addr) (i : Nat) : XS → SuT
  | .one x => fun a cls da => tRet (tXA X Ca i a cls da x)
  | .tup xs => fun a cls da => tRet (tTup (runs (xs.map (tXA X Ca i a cls da))))
def tCl (X : Cx) (k : Cl) : Value × Option Nat × SuT := (.ref (adr X.mg k.C), k.o, tXS X (adr X.mg k.C) (k.o.getD 100000) k.s)
section
variable {X : Cx} {W : WX} {c : Ce} {km : Nat} {io : List Nat}
theorem call_isG {a Ca : Addr} {oe : Obj} {cls : Value} {da : Option Addr} {pn : List (Addr × Obj)} (C : L2.ExcC X.K Ca) (hz : Zc cls da oe) (hf : ∃ vs, oe.data = .fields vs) : CallR (X.suite a ((a, oe) :: pn)) (.builtin "isinstance") (rIsG X.K Ca a cls da) := by
  intro pins s σ H xs us Q I r h
  obtain ⟨v, cv, b, dd, fs, rfl, hcv, e, rfl, rfl, ea, q⟩ := h
  cases r with
  | cons rx rr =>
    cases rr with
    | cons rt rr =>
      cases rr
      cases rx
      have ec := hcv _ rt
      subst ec
      obtain ⟨hget, _⟩ := I.pin (a, oe) (List.mem_append.mpr (.inl List.mem_cons_self))
      obtain ⟨vs, hv⟩ := hf
      have hx : ObjOk X.prog X.w H s.heap dd (.xd fs) := I.hok dd _ ea
      obtain ⟨mA, hns, _⟩ := hx
      obtain ⟨od, ho, _⟩ := lookIn_ns hns
      have J : PySem.W.InstAt s.heap a oe Ca (some od) := ⟨hget, hz.1, by unfold PySem.W.notCls; rw [hv] <;> rfl, by rw [hz.2]; exact ho⟩
      have hcl : (PySem.W.clsIn X.K Ca).isSome = true := by
        obtain ⟨cd, hc, _⟩ := PySem.W.any_some C.hd
        rw [hc] <;> rfl
      exact PySem.W.kia_one (PySem.W.kitx_exc hcl C.hg C.hk C.hs C.ha C.hn C.ht C.hm) I.kIn J e (fun z => nomatch z) fun tk => ⟨.bl b, H, I.kept (t' := tk) fun _ _ z => z, rfl, q⟩
theorem con_vOf {d : D} {k : Const} {n : Nat} {pos : Pos} (h : conB d k = true) : PE X (.Constant k n pos) (tC (vOf d)) ∧ isSc d = true ∧ ∀ G H, Rep X.K X.mg G H d (vOf d) (fun _ => False) := by
  cases d with
  | non => cases k <;> first | (cases h; done) | exact ⟨pe_non, rfl, fun _ _ => rep_non⟩
  | bl b =>
    cases k <;> first | (cases h; done) | skip
    rename_i b'
    have e : b = b' := eq_of_beq h
    subst e
    exact ⟨pe_bl, rfl, fun _ _ => rep_bl⟩
  | int b =>
    cases k <;> first | (cases h; done) | skip
    rename_i b'
    have e : b = b' := of_decide_eq_true h
    subst e
    exact ⟨pe_int, rfl, fun _ _ => rep_int⟩
  | str b =>
    cases k <;> first | (cases h; done) | skip
    rename_i b'
    have e : b = b' := of_decide_eq_true h
    subst e
    exact ⟨pe_str, rfl, fun _ _ => rep_str⟩
  | _ => cases k <;> cases h
theorem Good.su (g : Good X W c km) {a : Addr} {pn : List (Addr × Obj)} {i : Nat} {x : Str} {pos : Pos} (h : slB c i x = true) : PE (X.suite a pn) (.Name x pos) (tVar i) := by
  obtain ⟨h1, h2⟩ := ands h
  obtain ⟨h2, h3, h4⟩ := vis_of h2
  refine pe_var (X := X.suite a pn) (by show X.N[i]? = _; rw [g.N]; exact of_decide_eq_true h1) ?_ h3 h4
  show X.env.scope.names.lookup x = _ ∨ _ ∨ _
  rw [g.sc]; exact h2
theorem Good.gn (g : Good X W c km) {x y : Str} (h : gnB c x y = true) : x = y ∧ (Gl X x ∧ (x == ("__debug__" : Str)) = false ∧ x ≠ "__name__") := by
  obtain ⟨h1, h2⟩ := ands h
  exact ⟨of_decide_eq_true h1, g.gl h2⟩
theorem fld_at {K : Fr} {mg : Str → Option Value} {H : Hp} {f : Str} {d : D} : ∀ {fs : List (Str × V)} {xs : List D}, Vws K mg H xs (fs.map (·.2)) → isScs xs = true → ((fs.map (·.1)).zip xs).lookup f = some d → ∃ v, fs.lookup f = some v ∧ Vw K mg H d v ∧ isSc d = true
  | [], xs, _, _, e => by simp at e
  | (g, v) :: fs, xs, h, hs, e => by
    cases xs with
    | nil => simp at e
    | cons x xs =>
      obtain ⟨h1, h2⟩ := vws_cons (show Vws K mg H (x :: xs) (v :: fs.map (·.2)) from h)
      obtain ⟨s1, s2⟩ := ands (show (isSc x && isScs xs) = true from hs)
      by_cases q : (f == g) = true
      · have e1 : (((g, v) :: fs).map (·.1) |>.zip (x :: xs)).lookup f = some x := by simp [List.lookup, q]
        rw [e1] at e
        cases e
        exact ⟨v, by simp [List.lookup, q], h1, s1⟩
      · have q' : (f == g) = false := by simpa using q
        have e1 : (((g, v) :: fs).map (·.1) |>.zip (x :: xs)).lookup f = ((fs.map (·.1)).zip xs).lookup f := by simp [List.lookup, q']
        rw [e1] at e
        obtain ⟨w, k1, k2, k3⟩ := fld_at h2 s2 e
        exact ⟨w, by simp [List.lookup, q', k1], k2, k3⟩
/-- one word of a suite, the text -/
theorem xa_pe (g : Good X W c km) {cs fs bs : List Str} (T : XTab (gvOf X) cs fs bs) {C : Str} (hC : C ∈ cs) {i : Nat} {xa : XA} {e : Expr} (h : chkXA c fs bs i xa e = true) {a : Addr} {oe : Obj} {cls : Value} {da : Option Addr} {pn : List (Addr × Obj)} (hz : Zc cls da oe) (hf : ∃ vs, oe.data = .fields vs) :
    PE (X.suite a ((a, oe) :: pn)) e (tXA X (adr X.mg C) i a cls da xa) ∧ nst e = true := by
  obtain ⟨Ca, hm, xf, xc, hno, hex, hb⟩ := T.ex C hC
  have hm : X.mg C = some (.ref Ca) := hm
  rw [adr_of hm]
  cases xa with
  | con d =>
    cases e <;> first | (cases h; done) | skip
    exact ⟨(con_vOf h).1, rfl⟩
  | fld f =>
    cases e <;> first | (cases h; done) | skip
    rename_i v n p
    cases v <;> first | (cases h; done) | skip
    obtain ⟨h1, h2⟩ := ands h
    obtain ⟨h2, h3⟩ := ands h2
    have e2 : n = f := of_decide_eq_true h2
    subst e2
    exact ⟨pe_xf xf (hno _ (by simpa using h3)) hz hf (g.su h1), rfl⟩
  | isE B =>
    cases e <;> first | (cases h; done) | skip
    rename_i fn es kws pos
    cases fn <;> first | (cases h; done) | skip
    rename_i y p
    match es, kws, h with
    | [.Name x p1, .Name z p2], [], h =>
      obtain ⟨h1, h2⟩ := ands h
      obtain ⟨h5, h3⟩ := ands h2
      obtain ⟨h3, h4⟩ := ands h3
      obtain ⟨e1, g1⟩ := g.gn h1
      obtain ⟨e3, g3⟩ := g.gn h3
      subst e1
      subst e3
      obtain ⟨Ba, hB, _⟩ := hb z (by simpa using h4)
      have hB : X.mg z = some (.ref Ba) := hB
      refine ⟨?_, rfl⟩
      have pz : PE (X.suite a ((a, oe) :: pn)) (.Name z p2) (tC (.ref (adr X.mg z))) := pe_glob (X := X.suite a ((a, oe) :: pn)) g3.1 hB (by rw [adr_of hB]; rfl) g3.2.1
      exact pe_callB (X := X.suite a ((a, oe) :: pn)) (call_isG xc hz hf) g1.1 T.isi (by decide +kernel) (pa_of (.cons (g.su h5) (.one pz)) (fun e he => by
        simp only [List.mem_cons, List.not_mem_nil, or_false] at he
        rcases he with rfl | rfl <;> rfl)) g1.2.2 g1.2.1 rfl rfl
    | _, _ :: _, h => simp [chkXA] at h
  | isF f T' =>
    cases e <;> first | (cases h; done) | skip
    rename_i fn es kws pos
    cases fn <;> first | (cases h; done) | skip
    rename_i y p
    match es, kws, h with
    | [.Attribute (.Name x p0) n p1, .Name z p2], [], h =>
      obtain ⟨h1, h2⟩ := ands h
      obtain ⟨h7, h3⟩ := ands h2
      obtain ⟨h3, h4⟩ := ands h3
      obtain ⟨h3, h5⟩ := ands h3
      obtain ⟨h4, h6⟩ := ands h4
      obtain ⟨e1, g1⟩ := g.gn h1
      obtain ⟨e3, g3⟩ := g.gn h4
      have e2 : n = f := of_decide_eq_true h3
      subst e2
      have e6 : T' = "tuple" := of_decide_eq_true h6
      subst e6
      exact ⟨pe_isi (X := X.suite a ((a, oe) :: pn)) e1 e3 (by decide) g1 g3 T.isi T.tup rfl (pe_xf xf (hno _ (by simpa using h5)) hz hf (g.su h7)), rfl⟩
    | _, _ :: _, h => simp [chkXA] at h
/-- .. and what it tells -/
theorem xa_ev {cs fs bs : List Str} (T : XTab (gvOf X) cs fs bs) {x : Exc} (hC : x.C ∈ cs) {i : Nat} {xa : XA} {e : Expr} (h : chkXA c fs bs i xa e = true) {d : D} (ev : evXA x xa = some d) {a : Addr} {cls : Value} {da : Option Addr} {sg : L2.St} {H : Hp} {Q : VK} (xr : XRep X.K X.mg x cls da H)
    (hs : ∀ i', i = i' → i' ≠ 100000 → sg[i]? = some (some (.ref a))) (hN : ∀ y, slB c i y = true → i ≠ 100000) (q : ∀ v, Vw X.K X.mg H d v → isSc d = true → Q v H) : tXA X (adr X.mg x.C) i a cls da xa sg H Q := by
  obtain ⟨Ca, hm, xf, xc, hno, hex, hb⟩ := T.ex x.C hC
  have hm : X.mg x.C = some (.ref Ca) := hm
  rw [adr_of hm]
  obtain ⟨Ca', dd, fl, e1, e2, e3, e4, e5, e6, e7⟩ := xr.ex
  rw [hm] at e2
  cases e2
  have fd : ∀ {f : Str} {d : D} {Q : VK}, fldOf x f = some d → (∃ y, slB c i y = true) → (∀ v, Vw X.K X.mg H d v → isSc d = true → Q v H) → tXf a cls da Ca f (tVar i) sg H Q := by
    intro f d Q ef ⟨y, hy⟩ q
    unfold fldOf at ef
    rw [← e5] at ef
    obtain ⟨v, k1, k2, k3⟩ := fld_at e6 e7 ef
    exact ⟨_, hs i rfl (hN y hy), rfl, e1, dd, fl, v, e3, e4, k1, q v k2 k3⟩
  cases xa with
  | con d' =>
    cases ev
    cases e <;> first | (cases h; done) | skip
    obtain ⟨_, k2, k3⟩ := con_vOf (X := X) (n := 0) (pos := ⟨0, 0, 0, 0⟩) h
    exact q _ (k3 H H) k2
  | fld f =>
    cases e <;> first | (cases h; done) | skip
    rename_i v n p
    cases v <;> first | (cases h; done) | skip
    exact fd ev ⟨_, (ands h).1⟩ q
  | isE B =>
    cases ev
    cases e <;> first | (cases h; done) | skip
    rename_i fn es kws pos
    cases fn <;> first | (cases h; done) | skip
    rename_i y p
    match es, kws, h with
    | [.Name x' p1, .Name z p2], [], h =>
      obtain ⟨h1, h2⟩ := ands h
      obtain ⟨h2, h3⟩ := ands h2
      obtain ⟨h3, h4⟩ := ands h3
      obtain ⟨Ba, hB, hk⟩ := hb B (by simpa using h4)
      have hB : X.mg B = some (.ref Ba) := hB
      refine ⟨_, hs i rfl (hN _ h2), ?_⟩
      refine ⟨.ref (adr X.mg B), .ref Ba, true, dd, fl, rfl, fun u r => ?_, hk, e1, e3, e4, q _ rep_bl rfl⟩
      rw [adr_of hB] at r
      exact r
    | _, _ :: _, h => simp [chkXA] at h
  | isF f T' =>
    obtain ⟨d', ef, ev⟩ := ob_some (show ob (fldOf x f) (dIs T') = some d from ev)
    cases e <;> first | (cases h; done) | skip
    rename_i fn es kws pos
    cases fn <;> first | (cases h; done) | skip
    rename_i y p
    match es, kws, h with
    | [.Attribute (.Name x' p0) n p1, .Name z p2], [], h =>
      obtain ⟨h1, h2⟩ := ands h
      obtain ⟨h2, h3⟩ := ands h2
      refine fd ef ⟨_, h2⟩ fun v hv _ => ⟨v, _, rfl, rfl, d', d, hv, ev, fun w hw => q w hw ?_⟩
      unfold dIs at ev
      split at ev
      · obtain ⟨k, _, rfl⟩ := Option.map_eq_some_iff.mp ev
        rfl
      · cases ev
    | _, _ :: _, h => simp [chkXA] at h
theorem xas_pe (g : Good X W c km) {cs fs bs : List Str} (T : XTab (gvOf X) cs fs bs) {C : Str} (hC : C ∈ cs) {i : Nat} {a : Addr} {oe : Obj} {cls : Value} {da : Option Addr} {pn : List (Addr × Obj)} (hz : Zc cls da oe) (hf : ∃ vs, oe.data = .fields vs) :
    ∀ {xs : List XA} {es : List Expr}, chkXAs c fs bs i xs es = true → PEs (X.suite a ((a, oe) :: pn)) es (xs.map (tXA X (adr X.mg C) i a cls da)) ∧ ∀ e ∈ es, nst e = true
  | [], [], _ => ⟨.nil, fun e he => by cases he⟩
  | x :: xs, e :: es, h => by
    obtain ⟨h1, h2⟩ := ands (show (chkXA c fs bs i x e && chkXAs c fs bs i xs es) = true from h)
    obtain ⟨p1, n1⟩ := xa_pe g T hC h1 hz hf
    obtain ⟨p2, n2⟩ := xas_pe g T hC hz hf h2
    exact ⟨.cons p1 p2, fun y hy => (List.mem_cons.mp hy).elim (fun z => z ▸ n1) (n2 y)⟩
  | [], _ :: _, h => by simp [chkXAs] at h
  | _ :: _, [], h => by simp [chkXAs] at h
theorem xas_ev {cs fs bs : List Str} (T : XTab (gvOf X) cs fs bs) {x : Exc} (hC : x.C ∈ cs) {i : Nat} {a : Addr} {cls : Value} {da : Option Addr} {sg : L2.St} {H : Hp} (xr : XRep X.K X.mg x cls da H)
    (hs : ∀ i', i = i' → i' ≠ 100000 → sg[i]? = some (some (.ref a))) (hN : ∀ y, slB c i y = true → i ≠ 100000) : ∀ {xs : List XA} {es : List Expr} {ds : List D} {Q : List V → Hp → Prop}, chkXAs c fs bs i xs es = true → evXAs x xs = some ds → (∀ vs, Vws X.K X.mg H ds vs → isScs ds = true → Q vs H) →
      runs (xs.map (tXA X (adr X.mg x.C) i a cls da)) sg H Q
  | [], [], ds, Q, _, ev, q => by
    cases ev
    exact q [] (by simp [Vws, Reps]) rfl
  | xa :: xs, e :: es, ds, Q, h, ev, q => by
    obtain ⟨h1, h2⟩ := ands (show (chkXA c fs bs i xa e && chkXAs c fs bs i xs es) = true from h)
    obtain ⟨d, ev1, ev⟩ := ob_some ev
    obtain ⟨ds', ev2, ev⟩ := ob_some ev
    cases ev
    exact xa_ev T hC h1 ev1 xr hs hN fun v hv hsc => xas_ev T hC xr hs hN h2 ev2 fun vs hvs hscs => q (v :: vs) (vws_mk hv hvs) (by simp [isScs, hsc, hscs])
  | [], _ :: _, _, _, h, _, _ => by simp [chkXAs] at h
  | _ :: _, [], _, _, h, _, _ => by simp [chkXAs] at h
/-- a suite, the text -/
theorem xs_ps (g : Good X W c km) {cs fs bs : List Str} (T : XTab (gvOf X) cs fs bs) {C : Str} (hC : C ∈ cs) {i : Nat} {xs : XS} {e : Expr} {p : Pos} (h : chkXS c fs bs i xs e = true) (a : Addr) (oe : Obj) (cls : Value) (da : Option Addr) (pn : List (Addr × Obj)) (hz : Zc cls da oe) (hf : ∃ vs, oe.data = .fields vs) :
    PSs (X.suite a ((a, oe) :: pn)) [.Return (some e) p] (tXS X (adr X.mg C) i xs a cls da) := by
  cases xs with
  | one x => exact pss_one (ps_ret (xa_pe g T hC h hz hf).1)
  | tup xs =>
    cases e <;> first | (cases h; done) | skip
    obtain ⟨h1, h2⟩ := xas_pe g T hC hz hf h
    exact pss_one (ps_ret (pe_tup (pa_of h1 h2)))
theorem xs_ev {cs fs bs : List Str} (T : XTab (gvOf X) cs fs bs) {x : Exc} (hC : x.C ∈ cs) {i : Nat} {xs : XS} {e : Expr} (h : chkXS c fs bs i xs e = true) {d : D} (ev : evXS x xs = some d) {a : Addr} {cls : Value} {da : Option Addr} {sg : L2.St} {G H : Hp} {fp : FP} {rs : List D} {Dn : Ends} (xr : XRep X.K X.mg x cls da H)
    (hs : ∀ i', i = i' → i' ≠ 100000 → sg[i]? = some (some (.ref a))) (hN : ∀ y, slB c i y = true → i ≠ 100000) (r : R X.K X.mg G H [] [] rs sg fp)
    (q : ∀ v H' fp', Step X.K G H fp G H' fp' → R X.K X.mg G H' [d] [v] rs sg fp' → Dn.rt v H') : tXS X (adr X.mg x.C) i xs a cls da Dn sg H := by
  cases xs with
  | one xa =>
    exact xa_ev T hC h ev xr hs hN fun v hv hsc => q v H fp .refl (r.pushE (sc_any hsc hv))
  | tup xs =>
    cases e <;> first | (cases h; done) | skip
    obtain ⟨ds, ev1, ev⟩ := ob_some (show ob (evXAs x xs) (fun ds => if ds.length ≤ 1000 then some (.tup ds) else none) = some d from ev)
    split at ev
    case isFalse => cases ev
    rename_i hl
    cases ev
    refine xas_ev T hC xr hs hN h ev1 fun vs hvs hscs => ?_
    have el := reps_len hvs
    refine ⟨le_line (by omega), fun p hp => ?_⟩
    have r1 := r.pushN (reps_rev (reps_own (G' := G) ds (isOwns_of_sc hscs) hvs)) (fun a z => z.elim) (fun a o _ z => z)
    obtain ⟨f2, r2, st2⟩ := r1.newT (as := ds) (va := vs) el hp
    have st1 : Step X.K G H fp G H (fun a => False ∨ fp a) := .less fun a z => z.elim (fun z => z.elim) id
    exact q _ _ f2 (st1.trans st2) r2
/-- a slot whose value counts no more -/
theorem R.wipe {K : Fr} {mg : Str → Option Value} {G H : Hp} {sg : L2.St} {rs : List D} {fp : FP} {i : Nat} (v : V) (r : R K mg G H [] [] rs sg fp) (hi : i < rs.length) : ∃ fp', R K mg G H [] [] (rs.set i .un) (sg.set i (some v)) fp' ∧ Step K G H fp G H fp' :=
  (r.pushE (d := .un) (v := v) (by simp only [Rep]; exact fun _ z => z)).put hi
theorem hg_of (g : Good X W c km) {cs fs bs : List Str} (T : XTab (gvOf X) cs fs bs) : ∀ {ks : List Cl} {hs : List ExceptHandler}, chkCls c cs fs bs ks hs = true → HG X hs (ks.map (tCl X))
  | [], [], _ => .nil
  | [], _ :: _, h => by simp [chkCls] at h
  | k :: ks, hs, h => by
    obtain ⟨C, o, s⟩ := k
    unfold chkCls at h
    split at h
    · rename_i e2; cases e2
    · rename_i k' r x p on e p1 p2 hs' e2
      cases e2
      obtain ⟨h1, h2⟩ := ands h
      obtain ⟨h1, h3⟩ := ands h1
      obtain ⟨h2, h4⟩ := ands h2
      obtain ⟨rfl, gx⟩ := g.gn h1
      have hC : x ∈ cs := by simpa using h3
      obtain ⟨Ca, hm, _⟩ := T.ex x hC
      have hm : X.mg x = some (.ref Ca) := hm
      have nm : Names X x (.ref (adr X.mg x)) := ⟨gx.1, gx.2.1, .inl (by rw [adr_of hm]; exact hm)⟩
      have ih := hg_of g T h4
      cases o with
      | none =>
        cases on with
        | some _ => cases h2
        | none => exact .bare nm (fun a oe cls da pn hz hf => xs_ps g T hC h2 a oe cls da pn hz hf) ih
      | some i =>
        cases on with
        | none => cases h2
        | some n =>
          obtain ⟨h2, h5⟩ := ands h2
          obtain ⟨h2, h6⟩ := ands h2
          exact .named nm (by rw [g.N]; exact of_decide_eq_true h2) (by show X.env.scope.names.lookup n = _; rw [g.sc]; exact eq_of_beq h6) (fun a oe cls da pn hz hf => xs_ps g T hC h5 a oe cls da pn hz hf) ih
    · cases h
/-- the clauses do what pickX says -/
theorem pick_ok {cs fs bs : List Str} (T : XTab (gvOf X) cs fs bs) (hNl : c.N.length ≤ 1000) {x : Exc} (hC : x.C ∈ cs) : ∀ {ks : List Cl} {hs : List ExceptHandler} {rs : List D} {r : Fl} {cls : Value} {da : Option Addr} {sg : L2.St} {G H : Hp} {fp : FP} {Dn : Ends}, chkCls c cs fs bs ks hs = true → pickX io x rs ks = some r →
    R X.K X.mg G H [] [] rs sg fp → XRep X.K X.mg x cls da H → SPost X W io sg G H fp Dn r → wG X.K W Dn (ks.map (tCl X)) cls da sg H
  | [], hs, rs, r, cls, da, sg, G, H, fp, Dn, h, e, hR, xr, hp => by
    cases e
    exact hp cls da sg G H fp .refl (Kp.refl _ _) hR xr
  | k :: ks, hs, rs, r, cls, da, sg, G, H, fp, Dn, h, e, hR, xr, hp => by
    obtain ⟨C, o, s⟩ := k
    unfold chkCls at h
    split at h
    · rename_i e2; cases e2
    · rename_i k' r' y p on ex p1 p2 hs' e2
      cases e2
      obtain ⟨h1, h2⟩ := ands h
      obtain ⟨h1, h3⟩ := ands h1
      obtain ⟨h2, h4⟩ := ands h2
      obtain ⟨Ca, hm, _, _, _, hex, _⟩ := T.ex x.C hC
      obtain ⟨Cb, hb, em⟩ := hex C (by simpa using h3)
      have hm : X.mg x.C = some (.ref Ca) := hm
      have hb : X.mg C = some (.ref Cb) := hb
      obtain ⟨Ca', dd, fl, c1, c2, _⟩ := xr.ex
      rw [hm] at c2
      cases c2
      have hcls : cls = .ref Ca := c1
      refine ⟨decide (x.C = C), ?_, fun hyes a na => ?_, fun hno => ?_⟩
      · show PySem.W.exmOne X.K cls (.ref (adr X.mg C)) = _
        rw [adr_of hb, hcls]
        exact em
      · have eC : x.C = C := of_decide_eq_true hyes
        simp only [pickX] at e
        rw [if_pos eC] at e
        obtain ⟨d, ev, e⟩ := ob_some e
        show suRun o (tXS X (adr X.mg C) (o.getD 100000) s) a cls da Dn sg H
        rw [← eC]
        cases o with
        | none =>
          cases on with
          | some _ => cases h2
          | none =>
            cases e
            refine xs_ev T hC h2 ev xr (fun i' q1 q2 => absurd q1.symm q2) (fun y hy q => ?_) hR fun v H' fp' st r' => hp v sg G H' fp' st (Kp.refl _ _) r'
            have q1 := of_decide_eq_true (ands hy).1
            have q2 : 100000 < c.N.length := (List.getElem?_eq_some_iff.mp q1).1
            omega
        | some i =>
          cases on with
          | none => cases h2
          | some n =>
            obtain ⟨h2, h5⟩ := ands h2
            have e : (if okS io rs.length i = true then some (Fl.ret d (rs.set i .un)) else none) = some r := e
            split at e
            case isFalse => cases e
            rename_i ho
            cases e
            obtain ⟨o1, o2⟩ := okS_of ho
            obtain ⟨f2, r2, st2⟩ := hR.wipe (.ref a) o2
            have hl : i < sg.length := by rw [← hR.len]; exact o2
            show tXS X (adr X.mg x.C) i s a cls da (endsAs i Dn) (sg.set i (some (.ref a))) H
            refine xs_ev T hC h5 ev xr (fun i' q1 q2 => List.getElem?_set_self hl) (fun y hy q => ?_) r2 fun v H' fp' st r' => hp v _ G H' fp' (st2.trans st) (Kp.set o1) r'
            have q1 := of_decide_eq_true (ands hy).1
            have q2 := (List.getElem?_eq_some_iff.mp q1).1
            omega
      · have nC : ¬ x.C = C := of_decide_eq_false hno
        simp only [pickX] at e
        rw [if_neg nC] at e
        exact pick_ok T hNl hC h4 e hR xr hp
    · cases h
/-! ### a body in a form that doesn't tell its context -/
def tEv (X : Cx) (W : WX) (io : List Nat) (ev : List D → Option Fl) : TS := fun Dn sg H => ∃ rs r G fp, ev rs = some r ∧ R X.K X.mg G H [] [] rs sg fp ∧ SPost X W io sg G H fp Dn r
theorem pss_ev {st : List Stmt} {t : TS} {ev : List D → Option Fl} (h : PSs X st t) (s : SatS X W io t ev) : PSs X st (tEv X W io ev) :=
  ⟨fun pins s0 sg H Dn I ⟨rs, r, G, fp, e, hR, hp⟩ => h.run pins s0 sg H Dn I (s rs r e sg G H fp Dn hR hp)⟩
def tryD (cs : List Str) (ks : List Cl) (io : List Nat) (ev : List D → Option Fl) : List D → Option Fl := fun rs => match ev rs with
  | some (.exc x rs1) => if cs.contains x.C then pickX io x rs1 ks else none
  | r => r
theorem satS_try {cs fs bs : List Str} (T : XTab (gvOf X) cs fs bs) (hNl : c.N.length ≤ 1000) {ks : List Cl} {hs : List ExceptHandler} (hc : chkCls c cs fs bs ks hs = true) (ev : List D → Option Fl) :
    SatS X W io (fun Dn sg H => tEv X (wG X.K W Dn (ks.map (tCl X))) io ev Dn sg H) (tryD cs ks io ev) := by
  intro rs r e sg G H fp Dn hR hp
  unfold tryD at e
  cases q : ev rs with
  | none => rw [q] at e; cases e
  | some r1 =>
    rw [q] at e
    refine ⟨rs, r1, G, fp, q, hR, ?_⟩
    cases r1 with
    | nx rs1 => cases e; exact hp
    | ret d rs1 => cases e; exact hp
    | bk rs1 => cases e; exact hp
    | ct rs1 => cases e; exact hp
    | exc x rs1 =>
      simp only at e
      split at e
      case isFalse => cases e
      rename_i hC
      exact fun cls da sg' G' H' fp' st kp r' xr => pick_ok T hNl (by simpa using hC) hc e r' xr (hp.step st kp)
end
end Pv

set_option maxHeartbeats 2000000
namespace Pv
open PySem PySem.Spec PyProof.Rows L2
/-! ### the language of statements -/
mutual
inductive S where
  | asg (t : Tg) (e : E)
  | sto1 (s : Nat) (j : E) (e : E)
  | sto1e (s : Nat) (j : E) (e : E)
  | sto2 (s : Nat) (j1 j2 : E) (e : E)
  | aug (i : Nat) (p : P2) (e : E)
  | saug2 (s : Nat) (j1 j2 : E) (p : P2) (a : E)
  | app (s : Nat) (e : E)
  | ins (s : Nat) (e : E)
  | stof (s : Nat) (C f : Str) (e : E)
  | expr (e : E)
  | ret (e : E)
  | retF (e : E)
  | retN
  | brk
  | cnt
  | pass
  | ite (c : E) (a b : Ss)
  | whl (c : E) (b : Ss)
  | for_ (t : Tg) (it : Iter) (b : Ss)
  | raise (C : Str) (ns : List Str) (as : Es)
  | tryR (cs fs bs : List Str) (b : Ss) (ks : List Cl)
inductive Ss where
  | nil
  | cons (s : S) (r : Ss)
  | ali (o l e u p : Nat) (els r : Ss)
end
def thenA (r : Option (Res (List Arg))) (f : List Arg → List D → Option Fl) : Option Fl := match r with
  | some (.ok d rs1) => f d rs1
  | some (.exc x rs1) => some (.exc x rs1)
  | none => none
mutual
def evS (n : Nat) (io : List Nat) : S → List D → Option Fl
  | .asg t e, rs => thenE (evE e false rs) fun d rs1 => ob (tgA io t d rs1) fun rs2 => some (.nx rs2)
  | .sto1 s j e, rs => thenE (evE e false rs) fun d rs1 => ob (Pv.sto1 s (evP j rs1) d rs1) fun rs2 => some (.nx rs2)
  | .sto1e s j e, rs => thenE (evE e false rs) fun d rs1 => stoE1 s (evE j false) d rs1
  | .sto2 s j1 j2 e, rs => thenE (evE e false rs) fun d rs1 => ob (Pv.sto2 s (evP j1 rs1) (evP j2 rs1) d rs1) fun rs2 => some (.nx rs2)
  | .aug i p e, rs => ob (evP (.var i) rs) fun a => ob (asInt a) fun x => thenE (evE e false rs) fun d rs1 => ob (asInt d) fun y => ob (augI p x y) fun z => if okS io rs1.length i then some (.nx (rs1.set i (.int z))) else none
  | .saug2 s j1 j2 p a, rs => ob (evP (.ix (.ix (.var s) j1) j2) rs) fun o => ob (asInt o) fun x => ob (evP a rs) fun b => ob (asInt b) fun y => ob (augI p x y) fun z => ob (Pv.sto2 s (evP j1 rs) (evP j2 rs) (.int z) rs) fun rs2 => some (.nx rs2)
  | .app s e, rs => if isOwnL s rs then thenE (evE e false rs) fun d rs1 => ob (app1 s d rs1) fun rs2 => some (.nx rs2) else none
  | .ins s e, rs => if isOwnL s rs then thenE (evE e false rs) fun d rs1 => ob (ins1 s d rs1) fun rs2 => some (.nx rs2) else none
  | .stof s C f e, rs => thenE (evE e false rs) fun d rs1 => ob (stofD s C f (fz d) rs1) fun rs2 => some (.nx rs2)
  | .expr e, rs => thenE (evE e false rs) fun d rs1 => some (.nx rs1)
  | .ret e, rs => thenE (evE e true rs) fun d rs1 => some (.ret d rs1)
  | .retF e, rs => thenE (evE e false rs) fun d rs1 => some (.ret d rs1)
  | .retN, rs => some (.ret .non rs)
  | .brk, rs => some (.bk rs)
  | .cnt, rs => some (.ct rs)
  | .pass, rs => some (.nx rs)
  | .ite c a b, rs => thenT (evT c rs) fun k rs1 => if k then evSs n io a rs1 else evSs n io b rs1
  | .whl c b, rs => whlL (evT c) (evSs n io b) n rs
  | .for_ t it b, rs => thenI (evI it rs) fun ds rs1 => forL (tgA io t) (evSs n io b) ds rs1
  | .raise C ns as, rs => thenA (evA as rs) fun as rs1 => if isScs (as.map (res rs1)) && decide ((as.map (res rs1)).length = ns.length) then some (.exc ⟨C, ns, as.map (res rs1)⟩ rs1) else none
  | .tryR cs _ _ b ks, rs => tryD cs ks io (evSs n io b) rs
def evSs (n : Nat) (io : List Nat) : Ss → List D → Option Fl
  | .nil, rs => some (.nx rs)
  | .cons s r, rs => Fl.bd (evS n io s rs) (evSs n io r)
  | .ali o l e u p els r, rs => Fl.bd (aliD io o l e u p (evSs n io els) rs) (evSs n io r)
end
/-! ### the text against it -/
/-- no comprehension, or one whose value goes the plain way -/
def nsw (c : Ce) : Expr → Expr → Bool
  | .Name y py, .ListComp _ _ _ p => !(c.sc.names.lookup y == some .local && py.line == p.line)
  | .Tuple _ _ _, .ListComp _ _ _ _ => true
  | .Subscript _ _ _, .ListComp _ _ _ _ => true
  | _, .ListComp _ _ _ _ => false
  | _, .SetComp _ _ _ _ => false
  | _, .DictComp _ _ _ _ _ => false
  | _, _ => true
/-- one whose target is stored within its frame -/
def swp (c : Ce) : Expr → Expr → Bool
  | .Name y py, .ListComp _ _ s p => ((match c.sc.kind with
    | .function => true
    | _ => false) && (c.sc.names.lookup y == some .local)) && ((py.line == p.line) && !(s.names.any fun (n, k) => n == y && (k == .local || k == .cell)))
  | _, _ => false
def isLc : E → Bool
  | .lc _ _ _ _ _ => true
  | _ => false

/-- neither a comprehension nor, with several targets, a display -/
def ncomp : Expr → Bool
  | .ListComp _ _ _ _ => false
  | .SetComp _ _ _ _ => false
  | .DictComp _ _ _ _ _ => false
  | _ => true
def ndisp : Expr → Bool
  | .Tuple _ _ _ => false
  | _ => true
def augB : P2 → Operator → Bool
  | .add, .Add => true
  | .sub, .Sub => true
  | .mul, .Mult => true
  | _, _ => false
def eAliT (e u : Nat) : E := .op2 .eq (.ix (.var e) (.con (.int 2))) (.var u)
def eAliG (o : Nat) : E := .op2 .gt (.fnc .len (.cons (.var o) .nil)) (.con (.int 0))
def eAliA (o p : Nat) : E := .op2 .add (.ix (.ix (.var o) (.con (.int 0))) (.con (.int 0))) (.var p)
def varB (c : Ce) (i : Nat) (x : Str) : Bool := decide (c.N[i]? = some x) && visB c.sc x
def xAsgN : Stmt → Option (Str × Pos × Expr × Pos)
  | .Assign [.Name y p] v q => some (y, p, v, q)
  | _ => none
def xLc1 : Expr → Option (Expr × Expr × Expr × Expr × Scope × Pos)
  | .ListComp elt [⟨tg, it, [tst], 0⟩] s p => some (elt, tg, it, tst, s, p)
  | _ => none
def xName : Expr → Option (Str × Pos)
  | .Name x p => some (x, p)
  | _ => none
def xIf1 : Stmt → Option (Expr × Stmt × List Stmt × Pos)
  | .If t [a] z p => some (t, a, z, p)
  | _ => none
def xSto : Stmt → Option (Expr × Expr × Pos × Expr × Pos)
  | .Assign [.Subscript t i p] v q => some (t, i, p, v, q)
  | _ => none
def xSub : Expr → Option (Expr × Expr × Pos)
  | .Subscript a i p => some (a, i, p)
  | _ => none
def xCon0 : Expr → Bool
  | .Constant k _ _ => conB (.int 0) k
  | _ => false
theorem xAsgN_inv {s : Stmt} {y : Str} {p q : Pos} {v : Expr} (h : xAsgN s = some (y, p, v, q)) : s = .Assign [.Name y p] v q := by
  unfold xAsgN at h; split at h <;> cases h; rfl
theorem xLc1_inv {e elt tg it tst : Expr} {s : Scope} {p : Pos} (h : xLc1 e = some (elt, tg, it, tst, s, p)) : e = .ListComp elt [⟨tg, it, [tst], 0⟩] s p := by
  unfold xLc1 at h; split at h <;> cases h; rfl
theorem xName_inv {e : Expr} {x : Str} {p : Pos} (h : xName e = some (x, p)) : e = .Name x p := by
  unfold xName at h; split at h <;> cases h; rfl
theorem xIf1_inv {s a : Stmt} {t : Expr} {z : List Stmt} {p : Pos} (h : xIf1 s = some (t, a, z, p)) : s = .If t [a] z p := by
  unfold xIf1 at h; split at h <;> cases h; rfl
theorem xSto_inv {s : Stmt} {t i v : Expr} {p q : Pos} (h : xSto s = some (t, i, p, v, q)) : s = .Assign [.Subscript t i p] v q := by
  unfold xSto at h; split at h <;> cases h; rfl
theorem xSub_inv {e a i : Expr} {p : Pos} (h : xSub e = some (a, i, p)) : e = .Subscript a i p := by
  unfold xSub at h; split at h <;> cases h; rfl
def chkAli (c : Ce) (o l e u p : Nat) (x y : Stmt) : Bool :=
  match xAsgN x, xIf1 y with
  | some (oy, opos, lce, _), some (t2, st, _, _) => match xLc1 lce, xSto st with
    | some (e1, e2, lx, tst, scope, lpos), some (tgt, i2, _, v, _) => match xName e1, xName e2 with
      | some (ex1, _), some (ex2, _) => match xName lx, xSub tgt with
        | some (lxn, _), some (ob1, i1, _) => match xName ob1 with
          | some (o1, _) =>
            (((decide (o ≠ e) && decide (o ≠ l)) && (decide (o ≠ u) && decide (o ≠ p))) && ((decide (e ≠ l) && decide (e ≠ u)) && (decide (e ≠ p) && (decide (l ≠ u) && decide (l ≠ p))))) &&
            (((L2.blkC c.N c.sc scope (ownP c.N [e]) && ((match c.sc.kind with
              | .function => true
              | _ => false) && (c.sc.names.lookup oy == some .local))) && (((opos.line == lpos.line) && !(scope.names.any fun (n, k) => n == oy && (k == .local || k == .cell))) && (nmB c o oy && varB c l lxn))) &&
            ((nmB (c.blk scope) e ex2 && (varB (c.blk scope) e ex1 && chkE (c.blk scope) (eAliT e u) tst)) &&
            (chkE c (eAliG o) t2 && ((varB c o o1 && (xCon0 i1 && xCon0 i2)) && (ncomp v && chkE c (eAliA o p) v)))))
          | _ => false
        | _, _ => false
      | _, _ => false
    | _, _ => false
  | _, _ => false
def orElseOf : Stmt → List Stmt
  | .If _ _ z _ => z
  | _ => []
mutual
def chkS (c : Ce) : S → Stmt → Bool
  | .asg t e, .Assign [tg] v _ => ((nsw c tg v || (isLc e && swp c tg v)) && (match t with
    | .nm _ => true
    | .tp _ => ndisp v)) && (chkTg c t tg && chkE c e v)
  | .sto1 s j e, .Assign [.Subscript (.Name x _) j' _] v _ => ncomp v && ((decide (c.N[s]? = some x) && visB c.sc x) && (nsl j' && (chkE c j j' && chkE c e v)))
  | .sto1e s j e, .Assign [.Subscript (.Name x _) j' _] v _ => ncomp v && ((decide (c.N[s]? = some x) && visB c.sc x) && (nsl j' && (chkE c j j' && chkE c e v)))
  | .sto2 s j1 j2 e, .Assign [.Subscript (.Subscript (.Name x _) j1' _) j2' _] v _ => ncomp v && ((decide (c.N[s]? = some x) && visB c.sc x) && ((nsl j1' && nsl j2') && ((chkE c j1 j1' && chkE c j2 j2') && chkE c e v)))
  | .aug i p e, .AugAssign (.Name x _) o v _ => augB p o && (nmB c i x && chkE c e v)
  | .saug2 s j1 j2 p a, .AugAssign (.Subscript (.Subscript (.Name x _) j1' _) j2' _) o v _ => augB p o && ((decide (c.N[s]? = some x) && visB c.sc x) && ((nsl j1' && nsl j2') && ((chkE c j1 j1' && chkE c j2 j2') && chkE c a v)))
  | .app s e, .Expr (.Call (.Attribute (.Name x _) m ap) [v] [] cp) _ => (decide (m = ("append" : Str)) && (ap.endLine == cp.line)) && ((decide (c.N[s]? = some x) && visB c.sc x) && (nst v && chkE c e v))
  | .ins s e, .Expr (.Call (.Attribute (.Name x _) m ap) [.Constant k _ _, v] [] cp) _ => ((decide (m = ("insert" : Str)) && (ap.endLine == cp.line)) && conB (.int 0) k) && ((decide (c.N[s]? = some x) && visB c.sc x) && (nst v && chkE c e v))
  | .stof s C f e, .Assign [.Attribute (.Name x _) n _] v _ => (ncomp v && decide (n = f)) && ((decide (c.N[s]? = some x) && visB c.sc x) && chkE c e v)
  | .expr e, .Expr v _ => ncomp v && chkE c e v
  | .ret e, .Return (some v) _ => chkE c e v
  | .retF e, .Return (some v) _ => chkE c e v
  | .retN, .Return none _ => true
  | .brk, .Break _ => true
  | .cnt, .Continue _ => true
  | .pass, .Pass _ => true
  | .ite t a b, .If x y z _ => (tok t && chkE c t x) && (chkSs c a y && chkSs c b z)
  | .whl t b, .While x y [] _ => (tok t && chkE c t x) && chkSs c b y
  | .for_ t it b, .For tg i y [] _ => ((!needTup it || isTup tg) && chkTg c t tg) && (chkI c it i && chkSs c b y)
  | .raise C _ as, .Raise (some (.Call (.Name x _) es [] _)) none _ => (decide (x = C) && glB c.sc x) && (nempty es && chkL c as es)
  | .tryR cs fs bs b ks, .Try body (h :: hs) [] [] _ => decide (c.N.length ≤ 1000) && (chkSs c b body && chkCls c cs fs bs ks (h :: hs))
  | _, _ => false
def chkSs (c : Ce) : Ss → List Stmt → Bool
  | .nil, [] => true
  | .cons s r, x :: xs => chkS c s x && chkSs c r xs
  | .ali o l e u p els r, x :: y :: xs => chkAli c o l e u p x y && (chkSs c els (orElseOf y) && chkSs c r xs)
  | _, _ => false
end
mutual
def OkS (X : Gv) (km : Nat) : S → Prop
  | .asg _ e => OkE X km e
  | .sto1 _ j e => OkE X km j ∧ OkE X km e
  | .sto1e _ j e => OkE X km j ∧ OkE X km e
  | .sto2 _ j1 j2 e => (OkE X km j1 ∧ OkE X km j2) ∧ OkE X km e
  | .aug _ _ e => OkE X km e
  | .saug2 _ j1 j2 _ a => (OkE X km j1 ∧ OkE X km j2) ∧ OkE X km a
  | .app _ e => OkE X km e
  | .ins _ e => OkE X km e
  | .stof _ C f e => ClsHas X C [f] ∧ OkE X km e
  | .expr e => OkE X km e
  | .ret e => OkE X km e
  | .retF e => OkE X km e
  | .ite t a b => OkE X km t ∧ (OkSs X km a ∧ OkSs X km b)
  | .whl t b => OkE X km t ∧ OkSs X km b
  | .for_ _ it b => OkI X km it ∧ OkSs X km b
  | .raise C ns as => ExcHas X C ns ∧ OkL X km as
  | .tryR cs fs bs b _ => XTab X cs fs bs ∧ OkSs X km b
  | _ => True
def OkSs (X : Gv) (km : Nat) : Ss → Prop
  | .nil => True
  | .cons s r => OkS X km s ∧ OkSs X km r
  | .ali o _ _ _ _ els r => OkE X km (eAliG o) ∧ (OkSs X km els ∧ OkSs X km r)
end
section
variable {X : Cx} {W : WX} {c : Ce} {km : Nat} {io : List Nat}
theorem sw_plain {v : Expr} (h : ncomp v = true) (t : Option Expr) (l : Nat) (env : Env) : swapsWith v t l env = pure false := by
  cases v <;> first | rfl | (cases h)
theorem sole_nsw {c : Ce} {tg v : Expr} {env : Env} (hs : env.scope = c.sc) (h : nsw c tg v = true) (l : Nat) : swapsWithSole [tg] v l env = pure false := by
  cases v <;> first | rfl | skip
  case ListComp elt gs s p =>
    cases tg <;> first | rfl | (cases h; done) | skip
    rename_i y py
    have e : (env.kindOf y == some .local && py.line == p.line) = false := by
      have h' : (c.sc.names.lookup y == some .local && py.line == p.line) = false := by simpa only [nsw, Bool.not_eq_true'] using h
      have hk : env.kindOf y = c.sc.names.lookup y := by rw [← hs]; rfl
      rw [hk]; exact h'
    show swapsWith (.ListComp elt gs s p) (some (.Name y py)) l env = pure false
    have q : ∀ a b : Bool, (env.blockKind == .function && a && b && !(s.names.any fun (n, k) => n == y && (k == .local || k == .cell))) = ((a && b) && (env.blockKind == .function && !(s.names.any fun (n, k) => n == y && (k == .local || k == .cell)))) := fun a b => by
      cases a <;> cases b <;> simp
    unfold swapsWith
    show (pure (env.blockKind == .function && env.kindOf y == some .local && py.line == p.line && !(s.names.any fun (n, k) => n == y && (k == .local || k == .cell))) : Sem Bool) = _
    rw [q, e]
    rfl
  case SetComp => cases tg <;> cases h
  case DictComp => cases tg <;> cases h
theorem isLc_inv {e : E} (h : isLc e = true) : ∃ t it cs el own, e = .lc t it cs el own := by
  cases e <;> first | (cases h; done) | exact ⟨_, _, _, _, _, rfl⟩
theorem swp_inv {c : Ce} {tg v : Expr} (h : swp c tg v = true) : ∃ elt gs s p y py, v = .ListComp elt gs s p ∧ tg = .Name y py ∧ c.sc.kind = .function ∧ c.sc.names.lookup y = some .local ∧ (py.line == p.line) = true ∧ (s.names.any fun (n, k) => n == y && (k == .local || k == .cell)) = false := by
  cases tg <;> first | (cases v <;> cases h; done) | skip
  cases v <;> first | (cases h; done) | skip
  obtain ⟨w1, w2⟩ := ands h
  obtain ⟨w1, w3⟩ := ands w1
  obtain ⟨w2, w4⟩ := ands w2
  refine ⟨_, _, _, _, _, _, rfl, rfl, ?_, eq_of_beq w3, w2, by simpa using w4⟩
  split at w1
  · assumption
  · cases w1
theorem sole_plain {v : Expr} (h : ncomp v = true) (tg : Expr) (l : Nat) (env : Env) : swapsWithSole [tg] v l env = pure false := sw_plain h _ l env
theorem stores_plain {tg v : Expr} (h : ndisp v = true) (env : Env) : swappedStores [tg] v env = pure none := by
  cases tg <;> cases v <;> first | rfl | (cases h)
theorem stores_nt {tg v : Expr} (h : (match tg with
    | .Tuple _ _ _ => false
    | .List _ _ => false
    | .Starred _ _ => false
    | _ => true) = true) (env : Env) : swappedStores [tg] v env = pure none := by
  cases tg <;> first | (cases h; done) | (cases v <;> rfl)
theorem ps_asgD {tg v : Expr} {te : TE} {gt : TG} {pos : Pos} (he : PE X v te) (hg : PG X tg gt) (hc : ∀ l, swapsWithSole [tg] v l X.env = pure false) (hd : swappedStores [tg] v X.env = pure none) (hs : nst tg = true) : PS X (.Assign [tg] v pos) (tAsg te gt) :=
  ps_asg he hg (hc _) hd (by cases tg <;> first | rfl | (cases hs))
/-! ### a raise -/
theorem satS_raise {Ca : Addr} {C : Str} {ns : List Str} {tes : List TE} {as : Es} (hC : X.mg C = some (.ref Ca)) (h : SatA X W tes (evA as)) :
    SatS X W io (fun _ σ H => runs tes σ H fun vs H1 => vs.length = ns.length ∧ ∀ d, H1 d = none → W (.ref Ca) (some d) σ (upd H1 d (.xd (ns.zip vs)))) (evS n io (.raise C ns as)) := by
  intro rs r e sg G H fp Dn hR hp
  simp only [evS] at e
  cases q : evA as rs with
  | none => rw [q] at e; cases e
  | some r1 =>
    rw [q] at e
    refine h rs r1 q sg G H [] [] fp _ hR (fun as' rs1 er vs va G' H' f' st r' ar => ?_) (fun x rs1 er => ?_)
    · subst er
      simp only [thenA] at e
      split at e
      case isFalse => cases e
      rename_i hs
      obtain ⟨h1, h2⟩ := ands hs
      cases e
      have vw := views r' ar
      have hl : vs.length = ns.length := by rw [← of_decide_eq_true h2]; exact (reps_len vw).symm
      refine ⟨hl, fun d hd => ?_⟩
      obtain ⟨f2, r2, st2⟩ := r'.dropN (by simp [ar.len.1])
      have ex : ∀ a o, H' a = some o → upd H' d (.xd (ns.zip vs)) a = some o := fun a o h => by rw [upd_ne (ne_of_none h hd)]; exact h
      have st3 : Step X.K G' H' f2 G' (upd H' d (.xd (ns.zip vs))) f2 := .ext ex
      have r3 := r2.mono st3.tups (fun a o _ h => ex a o h) fun a o h => ex a o (r2.sub a o h).1
      refine hp _ _ sg G' _ f2 ((st.trans st2).trans st3) (Kp.refl _ _) r3 ⟨Ca, d, ns.zip vs, rfl, hC, rfl, upd_same, ?_, ?_, h1⟩
      · rw [List.map_fst_zip (by omega)]
      · rw [List.map_snd_zip (by omega)]
        exact reps_fz' ex h1 vw
    · subst er
      cases e
      exact hp.xp
where reps_fz' {K : Fr} {mg : Str → Option Value} {H H' : Hp} {ds : List D} {vs : List V} (ex : ∀ a o, H a = some o → H' a = some o) (hs : isScs ds = true) (h : Vws K mg H ds vs) : Vws K mg H' ds vs :=
  reps_own ds (isOwns_of_sc hs) (reps_mono (fun _ _ h => h) (fun a vs h => sqT_ex h ex) ds (fun _ _ z => z.elim) h)
end
end Pv

set_option maxHeartbeats 2000000
namespace Pv
open PySem PySem.Spec PyProof.Rows L2
section
variable {X : Cx} {W : WX} {c : Ce} {km : Nat} {io : List Nat}
/-- a def's body runs here -/
structure GoodS (X : Cx) (W : WX) (c : Ce) (km : Nat) : Prop extends Good X W c km where
  ow : PassesOwn (model X.prog X.w) X.A X.env X.xe
  stk : X.stack = X.env :: X.outer
  fr : X.env.frame = some X.env.locals
  pos : 1 ≤ km
/-- .. and within a try -/
theorem GoodS.tr (g : GoodS X W c km) {V : WX} {pn : List (Addr × Obj)} {xe : Value → Shared → Prop} (tk : Takes (X.tr pn xe) V) (ow : PassesOwn (model X.prog X.w) X.A X.env xe) : GoodS (X.tr pn xe) V c km :=
  { fine := ⟨g.fine.calm, g.fine.nd, g.fine.seer, g.fine.tree, g.fine.head, g.fine.depth, g.fine.units⟩
    tk := tk
    room := g.room
    N := g.N
    sc := g.sc
    fn := g.fn
    ow := ow
    stk := g.stk
    fr := g.fr
    pos := g.pos }
theorem SatS.congr {t : TS} {ev ev' : List D → Option Fl} (h : SatS X W io t ev) (e : ∀ rs, ev' rs = ev rs) : SatS X W io t ev' :=
  fun rs r q => h rs r (by rw [← e]; exact q)
theorem aug_of {p : P2} {o : Operator} (h : augB p o = true) : opI p = inplaceOp o ∧ augOk p = true := by
  cases p <;> cases o <;> first | (cases h; done) | exact ⟨rfl, rfl⟩
/-- an item of a list, by values -/
theorem get_list : PGet X (fun o i H Q => rIxL X.K o i H Q) := by
  intro pins s σ H o i ov iv Q I rx ry h
  obtain ⟨p, xs, k, z, rfl, rfl, hq, he, q⟩ := h
  cases rx
  obtain ⟨t, rfl⟩ := ry
  obtain ⟨its, r, pl, hz⟩ := I.list hq
  obtain ⟨j, h1, h2, h3, h4, h5⟩ := atI_get he
  obtain ⟨w, ew, rw'⟩ := r.get h2
  have hl := r.length
  have hn := line63
  have done : EP X pins σ Q w s := ⟨z, H, I, rw', q⟩
  by_cases h0 : 0 ≤ k
  · have hj : k.toNat = j := by
      rw [seqIndex_of h0 h5] at h1
      exact Option.some.inj h1
    exact wpAny_getItem_list pl.isList h0 (by omega) (by rw [hj]; simpa using ew) done
  · have hj : (k + (its.toArray.size : Int)).toNat = j := by
      rw [seqIndex_neg (by omega) h4] at h1
      rw [List.size_toArray, ← hl]
      exact Option.some.inj h1
    exact wpAny_getItem_list_neg pl.isList (by omega) (by rw [List.size_toArray] <;> omega) (by omega) (by rw [hj]; simpa using ew) done
theorem xCon0_pe {X : Cx} {e : Expr} (h : xCon0 e = true) : PE X e (tC (.int 0)) ∧ ∃ k n p, e = .Constant k n p := by
  cases e <;> first | (cases h; done) | skip
  rename_i k n p
  refine ⟨?_, _, _, _, rfl⟩
  cases k <;> first | (cases h; done) | skip
  rename_i z
  have ez : (0 : Int) = z := of_decide_eq_true h
  subst ez
  exact pe_int
/-- the found entry, changed where it stands -/
theorem ali_ok (g : GoodS X W c km) {o l e u p : Nat} {x y : Stmt} (h : chkAli c o l e u p x y = true) (ho : OkE (gvOf X) km (eAliG o)) {tels : TS} {els : List D → Option Fl} (pels : PSs X (orElseOf y) tels) (sels : SatS X W io tels els) :
    ∃ tx ty, PS X x tx ∧ PS X y ty ∧ SatS X W io (tSeq tx ty) (aliD io o l e u p els) := by
  unfold chkAli at h
  split at h
  case h_2 => cases h
  rename_i oy opos lce spos t2 st orelse ipos e1 e2
  cases xAsgN_inv e1
  cases xIf1_inv e2
  clear e1 e2
  split at h
  case h_2 => cases h
  rename_i el1 el2 lx tst scope lpos tgt i2 sp2 v vpos e1 e2
  cases xLc1_inv e1
  cases xSto_inv e2
  clear e1 e2
  split at h
  case h_2 => cases h
  rename_i ex1 ep1 ex2 ep2 e1 e2
  cases xName_inv e1
  cases xName_inv e2
  clear e1 e2
  split at h
  case h_2 => cases h
  rename_i lxn lp ob1 i1 sp1 e1 e2
  cases xName_inv e1
  cases xSub_inv e2
  clear e1 e2
  split at h
  case h_2 => cases h
  rename_i o1 op1 e1
  cases xName_inv e1
  clear e1
  obtain ⟨a1, a2⟩ := ands h
  obtain ⟨b1, b2⟩ := ands a1
  obtain ⟨b3, b4⟩ := ands b1
  obtain ⟨d1, d2⟩ := ands b3
  obtain ⟨d3, d4⟩ := ands b4
  obtain ⟨b5, b6⟩ := ands b2
  obtain ⟨d5, d6⟩ := ands b5
  obtain ⟨d7, b7⟩ := ands b6
  obtain ⟨d8, d9⟩ := ands b7
  obtain ⟨c1, c2⟩ := ands a2
  obtain ⟨c3, c4⟩ := ands c1
  obtain ⟨c5, c6⟩ := ands c3
  obtain ⟨w1, w2⟩ := ands c6
  obtain ⟨c7, c8⟩ := ands c4
  obtain ⟨w3, w4⟩ := ands c7
  obtain ⟨v1, v2⟩ := ands c8
  obtain ⟨c9, c10⟩ := ands c2
  obtain ⟨v3, c11⟩ := ands c9
  obtain ⟨v4, v5⟩ := ands c11
  obtain ⟨v6, c12⟩ := ands c10
  obtain ⟨c13, c14⟩ := ands c12
  obtain ⟨v7, c15⟩ := ands c13
  obtain ⟨v8, v9⟩ := ands c15
  obtain ⟨v10, v11⟩ := ands c14
  have hk : X.env.scope.kind = .function := by
    rw [g.sc]
    split at w1
    · assumption
    · cases w1
  have hy : X.env.scope.names.lookup oy = some .local := by rw [g.sc]; exact eq_of_beq w2
  have ok : L2.BlkOk X.N X.env.scope scope (ownP c.N [e]) := by
    rw [g.N, g.sc]
    exact L2.blkOk_by c5
  have gb : ∀ (s : Shared) (H : Hp) (C : Addr) (cl : List (Str × Addr)) (fp : List Addr), Good (X.blk s H scope (compEnvC scope cl C X.env) fp) WF (c.blk scope) km := fun s H C cl fp => g.toGood.blk
  obtain ⟨q1, q2, q3⟩ := g.toGood.loc v1
  have px := ps_setLc (X := X) (i := o) (y := oy) (py := opos) (pos := lpos) (spos := spos) (g := gName e) (tt := tEvPB X.K X.mg (evP (eAliT e u))) (te := tVar e) (own := ownP c.N [e]) g.fine.calm g.fine.nd q1 hy (sw_true hk hy w3 (by simpa using w4)) (pi_list (tg := .Name ex2 ep2) (g.toGood.pv (pos := lp) v2)) ok
    (fun s H C cl fp => pg_nm (gb s H C cl fp) v3) (fun s H C cl fp => by
      obtain ⟨tt, pt, st⟩ := ((allE (eAliT e u) (gb s H C cl fp) tst v5 (by simp [eAliT, OkE])).spt rfl).ex
      exact pts_one ⟨fun pins s0 sg H Q I ⟨rs, b, G, ts, tv, fp', ev, hR, hq⟩ => pt.run pins s0 sg H Q I (st rs (.bl b) b ev rfl sg G H ts tv fp' Q hR hq)⟩)
    (fun s H C cl fp => (gb s H C cl fp).pv (pos := ep1) v4)
  rw [ownP_snd] at px
  obtain ⟨tt2, pt2, st2⟩ := ((allE (eAliG o) g.toGood t2 v6 ho).spt rfl).ex
  obtain ⟨te, pe, se⟩ := (allE (eAliA o p) g.toGood v v11 (by simp [eAliA, OkE])).sp.ex
  obtain ⟨z1, k1, n1, kp1, rfl⟩ := xCon0_pe (X := X) v8
  obtain ⟨z2, k2, n2, kp2, rfl⟩ := xCon0_pe (X := X) v9
  have py := ps_if (pos := ipos) pt2 (pss_one (ps_asgD (pos := vpos) pe (pg_sub (pos := sp2) (pe_ix (pos := sp1) ix_seq (g.toGood.pv (pos := op1) v7) z1 (fun _ _ => rfl)) z2 set_list (fun v => rfl)) (fun l => sole_plain v10 _ l _) (stores_nt rfl _) rfl)) pels
  exact ⟨_, _, px, py, satS_ali (of_decide_eq_true d1) (of_decide_eq_true d2) (of_decide_eq_true d3) (of_decide_eq_true d4) (of_decide_eq_true d5) (of_decide_eq_true d6) (of_decide_eq_true d7) (of_decide_eq_true d8) (of_decide_eq_true d9) st2 se sels⟩
mutual
/-- THE STATEMENTS -/
theorem allS (n : Nat) (io : List Nat) : ∀ (m : S) {X : Cx} {W : WX} {c : Ce} {km : Nat} (g : GoodS X W c km) (s : Stmt), chkS c m s = true → OkS (gvOf X) km m → ∃ t, PS X s t ∧ SatS X W io t (evS n io m)
  | .asg t e, X, W, c, km, g, s, hc, ho => by
    cases s <;> first | (cases hc; done) | skip
    rename_i tgs v pos
    match tgs, hc with
    | [tg], hc =>
      obtain ⟨h1, h2⟩ := ands hc
      obtain ⟨h1, h3⟩ := ands h1
      obtain ⟨k2, k4⟩ := ands h2
      by_cases hn : nsw c tg v = true
      · obtain ⟨te, pe, se, _⟩ := (allE e g.toGood v k4 ho).se.ex
        obtain ⟨gt, pg, sg⟩ := pg_of (io := io) g.toGood k2
        refine ⟨_, ps_asgD pe pg (sole_nsw g.sc hn) ?_ ?_, (satS_asg (se false) sg).congr fun rs => by simp only [evS]⟩
        · cases t with
          | nm i =>
            cases tg <;> first | (cases k2; done) | skip
            exact stores_nt rfl _
          | tp is => exact stores_plain h3 _
        · cases t <;> cases tg <;> first | rfl | (cases k2)
      · have hn : nsw c tg v = false := by simpa using hn
        rw [hn, Bool.false_or] at h1
        obtain ⟨hl, hw⟩ := ands h1
        obtain ⟨t', it, cs, el, own, rfl⟩ := isLc_inv hl
        obtain ⟨elt, gs, scope, p, y, py, rfl, rfl, w1, w2, w3, w4⟩ := swp_inv hw
        cases t with
        | tp is => cases k2
        | nm i =>
          obtain ⟨ct, ci, cifs, wi, rfl, pi, si, hf, ok, hti, pg, pt, pe⟩ := lc_parts g.toGood k4 ho
          obtain ⟨a1, a2, a3⟩ := g.loc (show nmB c i y = true from k2)
          have hk : X.env.scope.kind = .function := by rw [g.sc]; exact w1
          have hy : X.env.scope.names.lookup y = some .local := by rw [g.sc]; exact w2
          have hp := ps_setLc (X := X) (i := i) (y := y) (py := py) (pos := p) (spos := pos) g.fine.calm g.fine.nd a1 hy (sw_true hk hy w3 w4) pi ok pg pt pe hf
          rw [ownP_snd] at hp
          exact ⟨_, hp, (satS_asg (sat_lc hti si) satG_nm).congr fun rs => by simp only [evS, evE]⟩
  | .sto1 sl j e, X, W, c, km, g, s, hc, ho => by
    cases s <;> first | (cases hc; done) | skip
    rename_i tgs v pos
    match tgs, hc with
    | [.Subscript (.Name x p1) j' p2], hc =>
      obtain ⟨h1, h2⟩ := ands hc
      obtain ⟨h2, h3⟩ := ands h2
      obtain ⟨h3, h4⟩ := ands h3
      obtain ⟨h4, h5⟩ := ands h4
      obtain ⟨te, pe, se, _⟩ := (allE e g.toGood v h5 ho.2).se.ex
      obtain ⟨tj, pj, sj⟩ := (allE j g.toGood j' h4 ho.1).sp.ex
      refine ⟨_, ps_asgD pe (pg_sub (g.pv h2) pj set_list (fun v => ?_)) (fun l => sole_plain h1 _ l _) (stores_nt rfl _) rfl, (satS_asg (se false) (satG_sto1 sj)).congr fun rs => by simp only [evS]⟩
      cases j' <;> first | rfl | (cases h3)
  | .sto1e sl j e, X, W, c, km, g, s, hc, ho => by
    cases s <;> first | (cases hc; done) | skip
    rename_i tgs v pos
    match tgs, hc with
    | [.Subscript (.Name x p1) j' p2], hc =>
      obtain ⟨h1, h2⟩ := ands hc
      obtain ⟨h2, h3⟩ := ands h2
      obtain ⟨h3, h4⟩ := ands h3
      obtain ⟨h4, h5⟩ := ands h4
      obtain ⟨te, pe, se, _⟩ := (allE e g.toGood v h5 ho.2).se.ex
      obtain ⟨tj, pj, sj, _⟩ := (allE j g.toGood j' h4 ho.1).se.ex
      refine ⟨_, ps_asgD pe (pg_sub (g.pv h2) pj set_list (fun v => ?_)) (fun l => sole_plain h1 _ l _) (stores_nt rfl _) rfl, (satS_stoE (se false) (sj false)).congr fun rs => by simp only [evS]⟩
      cases j' <;> first | rfl | (cases h3)
  | .sto2 sl j1 j2 e, X, W, c, km, g, s, hc, ho => by
    cases s <;> first | (cases hc; done) | skip
    rename_i tgs v pos
    match tgs, hc with
    | [.Subscript (.Subscript (.Name x p1) j1' p2) j2' p3], hc =>
      obtain ⟨h1, h2⟩ := ands hc
      obtain ⟨h2, h3⟩ := ands h2
      obtain ⟨h3, h4⟩ := ands h3
      obtain ⟨h3, h3'⟩ := ands h3
      obtain ⟨h4, h5⟩ := ands h4
      obtain ⟨h4, h4'⟩ := ands h4
      obtain ⟨te, pe, se, _⟩ := (allE e g.toGood v h5 ho.2).se.ex
      obtain ⟨t1, p1', s1⟩ := (allE j1 g.toGood j1' h4 ho.1.1).sp.ex
      obtain ⟨t2, p2', s2⟩ := (allE j2 g.toGood j2' h4' ho.1.2).sp.ex
      refine ⟨_, ps_asgD pe (pg_sub (pe_ix ix_seq (g.pv h2) p1' (plain_nsl h3)) p2' set_list (fun v => ?_)) (fun l => sole_plain h1 _ l _) (stores_nt rfl _) rfl, (satS_asg (se false) (satG_sto2 s1 s2)).congr fun rs => by simp only [evS]⟩
      cases j2' <;> first | rfl | (cases h3')
  | .aug i p e, X, W, c, km, g, s, hc, ho => by
    cases s <;> first | (cases hc; done) | skip
    rename_i tg o v pos
    cases tg <;> first | (cases hc; done) | skip
    rename_i x p1
    obtain ⟨h1, h2⟩ := ands hc
    obtain ⟨h2, h3⟩ := ands h2
    obtain ⟨te, pe, se, _⟩ := (allE e g.toGood v h3 ho).se.ex
    obtain ⟨a1, a2, a3⟩ := g.loc h2
    obtain ⟨b1, b2⟩ := aug_of h1
    have hop : OpR X (inplaceOp o) (rAug p) := by rw [← b1]; exact doesAug b2
    exact ⟨_, ps_aug g.fine.nd a1 a2 pe hop a3, (satS_aug (se false)).congr fun rs => by simp only [evS]⟩
  | .saug2 sl j1 j2 p a, X, W, c, km, g, s, hc, ho => by
    cases s <;> first | (cases hc; done) | skip
    rename_i tg o v pos
    match tg, hc with
    | .Subscript (.Subscript (.Name x p1) j1' p2) j2' p3, hc =>
      obtain ⟨h1, h2⟩ := ands hc
      obtain ⟨h2, h3⟩ := ands h2
      obtain ⟨h3, h4⟩ := ands h3
      obtain ⟨h3, h3'⟩ := ands h3
      obtain ⟨h4, h5⟩ := ands h4
      obtain ⟨h4, h4'⟩ := ands h4
      obtain ⟨te, pe, se⟩ := (allE a g.toGood v h5 ho.2).sp.ex
      obtain ⟨t1, p1', s1⟩ := (allE j1 g.toGood j1' h4 ho.1.1).sp.ex
      obtain ⟨t2, p2', s2⟩ := (allE j2 g.toGood j2' h4' ho.1.2).sp.ex
      obtain ⟨b1, b2⟩ := aug_of h1
      have hop : OpR X (inplaceOp o) (rAug p) := by rw [← b1]; exact doesAug b2
      exact ⟨_, ps_augS (pe_ix ix_seq (g.pv h2) p1' (plain_nsl h3)) p2' get_list pe hop set_list (fun _ _ _ => by cases j2' <;> first | rfl | (cases h3')), (satS_saug2 s1 s2 se).congr fun rs => by simp only [evS]⟩
  | .app sl e, X, W, c, km, g, s, hc, ho => by
    cases s <;> first | (cases hc; done) | skip
    rename_i ex pos
    match ex, hc with
    | .Call (.Attribute (.Name x p1) m ap) [v] [] cp, hc =>
      obtain ⟨h1, h2⟩ := ands hc
      obtain ⟨h1, h3⟩ := ands h1
      obtain ⟨h2, h4⟩ := ands h2
      obtain ⟨h4, h5⟩ := ands h4
      have hm : m = "append" := of_decide_eq_true h1
      subst hm
      obtain ⟨te, pe, se, _⟩ := (allE e g.toGood v h5 ho).se.ex
      have hs : ∀ x ∈ [v], nst x = true := fun x hx => by
        simp only [List.mem_cons, List.not_mem_nil, or_false] at hx
        subst hx; exact h4
      have st := star_nst h4 [] X.env
      refine ⟨_, ps_expr (pe_bm PySem.F.plainAttrs_list PySem.F.slot_list_append PySem.F.type_list_append mt_append (g.pv h2) (pa_of (.one pe) hs) rfl ?_ h3 st (back_nst (fun e he => hs e (List.mem_cons_of_mem _ he)) _ _)) rfl, (satS_app (se false)).congr fun rs => by simp only [evS]⟩
      rw [st]; rfl
  | .ins sl e, X, W, c, km, g, s, hc, ho => by
    cases s <;> first | (cases hc; done) | skip
    rename_i ex pos
    match ex, hc with
    | .Call (.Attribute (.Name x p1) m ap) [.Constant k kn kp, v] [] cp, hc =>
      obtain ⟨j1, j2⟩ := ands hc
      obtain ⟨j3, j4⟩ := ands j1
      obtain ⟨j5, j6⟩ := ands j3
      obtain ⟨j7, j8⟩ := ands j2
      obtain ⟨j9, j10⟩ := ands j8
      have hm : m = "insert" := of_decide_eq_true j5
      subst hm
      obtain ⟨te, pe, se, _⟩ := (allE e g.toGood v j10 ho).se.ex
      have pk : PE X (.Constant k kn kp) (tC (.int 0)) := by
        cases k <;> first | (cases j4; done) | skip
        rename_i z
        have ez : (0 : Int) = z := of_decide_eq_true j4
        subst ez
        exact pe_int
      have hs : ∀ x ∈ [Expr.Constant k kn kp, v], nst x = true := fun x hx => by
        simp only [List.mem_cons, List.not_mem_nil, or_false] at hx
        rcases hx with rfl | rfl
        · rfl
        · exact j9
      have st := star_nst (show nst (Expr.Constant k kn kp) = true from rfl) [v] X.env
      have st2 := star_nst j9 [] X.env
      refine ⟨_, ps_expr (pe_bm PySem.F.plainAttrs_list PySem.F.slot_list_insert PySem.F.type_list_insert mt_insert (g.pv j7) (pa_of (.cons pk (.one pe)) hs) rfl ?_ j6 st (back_nst (fun e he => hs e (List.mem_cons_of_mem _ he)) _ _)) rfl, (satS_ins (se false)).congr fun rs => by simp only [evS]⟩
      rw [st, st2]; rfl
  | .stof sl C f e, X, W, c, km, g, s, hc, ho => by
    cases s <;> first | (cases hc; done) | skip
    rename_i tgs v pos
    match tgs, hc with
    | [.Attribute (.Name x p1) n p2], hc =>
      obtain ⟨j1, j2⟩ := ands hc
      obtain ⟨j3, j4⟩ := ands j1
      obtain ⟨j5, j6⟩ := ands j2
      have hn : n = f := of_decide_eq_true j4
      subst hn
      obtain ⟨te, pe, se, _⟩ := (allE e g.toGood v j6 ho.2).se.ex
      exact ⟨_, ps_fld (g.pv j5) pe (sw_plain j3 _ _ _), (satS_stof ho.1 (se false)).congr fun rs => by simp only [evS]⟩
  | .expr e, X, W, c, km, g, s, hc, ho => by
    cases s <;> first | (cases hc; done) | skip
    · rename_i v pos
      obtain ⟨h1, h2⟩ := ands (show (ncomp v && chkE c e v) = true from by cases v <;> first | exact hc | (revert hc; simp only [chkS]; exact id))
      obtain ⟨te, pe, se, _⟩ := (allE e g.toGood v h2 ho).se.ex
      exact ⟨_, ps_expr pe (sw_plain h1 _ _ _), (satS_expr (se false)).congr fun rs => by simp only [evS]⟩
  | .ret e, X, W, c, km, g, s, hc, ho => by
    cases s <;> first | (cases hc; done) | skip
    rename_i v pos
    cases v with
    | none => cases hc
    | some v =>
      obtain ⟨te, pe, se, _⟩ := (allE e g.toGood v hc ho).se.ex
      exact ⟨_, ps_ret pe, (satS_ret (se true)).congr fun rs => by simp only [evS]⟩
  | .retF e, X, W, c, km, g, s, hc, ho => by
    cases s <;> first | (cases hc; done) | skip
    rename_i v pos
    cases v with
    | none => cases hc
    | some v =>
      obtain ⟨te, pe, se, _⟩ := (allE e g.toGood v hc ho).se.ex
      exact ⟨_, ps_ret pe, (satS_ret (se false)).congr fun rs => by simp only [evS]⟩
  | .retN, X, W, c, km, g, s, hc, ho => by
    cases s <;> first | (cases hc; done) | skip
    rename_i v pos
    cases v with
    | some v => cases hc
    | none => exact ⟨_, ps_retN, satS_retN.congr fun rs => by simp only [evS]⟩
  | .brk, X, W, c, km, g, s, hc, ho => by
    cases s <;> first | (cases hc; done) | skip
    exact ⟨_, ps_break, satS_bk.congr fun rs => by simp only [evS]⟩
  | .cnt, X, W, c, km, g, s, hc, ho => by
    cases s <;> first | (cases hc; done) | skip
    exact ⟨_, ps_continue, satS_ct.congr fun rs => by simp only [evS]⟩
  | .pass, X, W, c, km, g, s, hc, ho => by
    cases s <;> first | (cases hc; done) | skip
    exact ⟨_, ps_pass, satS_nil.congr fun rs => by simp only [evS]⟩
  | .ite t a b, X, W, c, km, g, s, hc, ho => by
    cases s <;> first | (cases hc; done) | skip
    rename_i x y z pos
    obtain ⟨h1, h2⟩ := ands hc
    obtain ⟨h1, h3⟩ := ands h1
    obtain ⟨h2, h4⟩ := ands h2
    obtain ⟨tt, pt, st⟩ := ((allE t g.toGood x h3 ho.1).st h1).ex
    obtain ⟨ta, pa, sa⟩ := allSs n io a g y h2 ho.2.1
    obtain ⟨tb, pb, sb⟩ := allSs n io b g z h4 ho.2.2
    exact ⟨_, ps_if pt pa pb, (satS_if st sa sb).congr fun rs => by simp only [evS]⟩
  | .whl t b, X, W, c, km, g, s, hc, ho => by
    cases s <;> first | (cases hc; done) | skip
    rename_i x y z pos
    cases z with
    | cons _ _ => cases hc
    | nil =>
      obtain ⟨h1, h2⟩ := ands hc
      obtain ⟨h1, h3⟩ := ands h1
      obtain ⟨tt, pt, st⟩ := ((allE t g.toGood x h3 ho.1).st h1).ex
      obtain ⟨tb, pb, sb⟩ := allSs n io b g y h2 ho.2
      exact ⟨_, ps_while g.ow pt pb, (satS_whl st sb n).congr fun rs => by simp only [evS]⟩
  | .for_ t it b, X, W, c, km, g, s, hc, ho => by
    cases s <;> first | (cases hc; done) | skip
    rename_i tg i y z pos
    cases z with
    | cons _ _ => cases hc
    | nil =>
      obtain ⟨h1, h2⟩ := ands hc
      obtain ⟨h1, h3⟩ := ands h1
      obtain ⟨h2, h4⟩ := ands h2
      obtain ⟨wi, pi, si, hf⟩ := allI it g.toGood (tg := tg) h2 ho.1 (fun q => by rw [q] at h1; simpa using h1)
      obtain ⟨gt, pg, sg⟩ := pg_of (io := io) g.toGood h3
      obtain ⟨tb, pb, sb⟩ := allSs n io b g y h4 ho.2
      exact ⟨_, ps_for g.ow g.fine.calm pi pg pb hf, (satS_for si sg sb).congr fun rs => by simp only [evS]⟩
  | .raise C ns as, X, W, c, km, g, s, hc, ho => by
    cases s <;> first | (cases hc; done) | skip
    rename_i x z pos
    match x, z, hc with
    | some (.Call (.Name x p) es [] p2), none, hc =>
      obtain ⟨h1, h2⟩ := ands hc
      obtain ⟨h1, h3⟩ := ands h1
      obtain ⟨h2, h4⟩ := ands h2
      have hx : x = C := of_decide_eq_true h1
      subst hx
      have L := allL as g.toGood es h4 ho.2
      obtain ⟨tes, ps, sa⟩ := L.exA
      obtain ⟨Ca, fI, T, hdb⟩ := ho.1.ex
      cases es with
      | nil => cases h2
      | cons e es => exact ⟨_, ps_raise g.fine.calm g.tk (mk_exc T (g.room.mono g.pos) hdb (g.gl h3).1 ps L.nst), satS_raise T.gC sa⟩
  | .tryR cs fs bs b ks, X, W, c, km, g, s, hc, ho => by
    cases s <;> first | (cases hc; done) | skip
    rename_i body hds orelse fin pos
    match hds, orelse, fin, hc with
    | h :: hs, [], [], hc =>
      obtain ⟨h1, h2⟩ := ands hc
      obtain ⟨h2, h3⟩ := ands h2
      have hl : c.N.length ≤ 1000 := of_decide_eq_true h1
      have T : XTab (gvOf X) cs fs bs := ho.1
      refine ⟨_, ps_tryG (tb := fun V => tEv X V io (evSs n io b)) g.stk g.fr g.fine.nd g.tk (fun V pn xe tk ow => ?_) (hg_of g.toGood T h3), (satS_try T hl h3 (evSs n io b)).congr fun rs => by simp only [evS]⟩
      obtain ⟨t, p, st⟩ := allSs n io b (g.tr tk ow) body h2 ho.2
      exact pss_ev (X := X.tr pn xe) p st
theorem allSs (n : Nat) (io : List Nat) : ∀ (m : Ss) {X : Cx} {W : WX} {c : Ce} {km : Nat} (g : GoodS X W c km) (s : List Stmt), chkSs c m s = true → OkSs (gvOf X) km m → ∃ t, PSs X s t ∧ SatS X W io t (evSs n io m)
  | .nil, X, W, c, km, g, s, hc, ho => by
    cases s with
    | cons _ _ => cases hc
    | nil => exact ⟨_, pss_nil, satS_nil.congr fun rs => by simp only [evSs]⟩
  | .cons a r, X, W, c, km, g, s, hc, ho => by
    cases s with
    | nil => cases hc
    | cons x xs =>
      obtain ⟨h1, h2⟩ := ands hc
      obtain ⟨t, p, st⟩ := allS n io a g x h1 ho.1
      obtain ⟨u, q, su⟩ := allSs n io r g xs h2 ho.2
      exact ⟨_, pss_cons p q, (satS_seq st su).congr fun rs => by simp only [evSs]⟩
  | .ali o l e u p els r, X, W, c, km, g, s, hc, ho => by
    cases s with
    | nil => cases hc
    | cons x s =>
      cases s with
      | nil => cases hc
      | cons y xs =>
        obtain ⟨h1, h2⟩ := ands hc
        obtain ⟨h3, h4⟩ := ands h2
        obtain ⟨tr, pr, sr⟩ := allSs n io r g xs h4 ho.2.2
        obtain ⟨tels, pels, sels⟩ := allSs n io els g (orElseOf y) h3 ho.2.1
        obtain ⟨tx, ty, px, py, sa⟩ := ali_ok g h1 ho.1 pels sels
        exact ⟨_, pss_cons px (pss_cons py pr), (satS_seq sa sr).congr fun rs => by simp only [evSs]⟩
end
end
end Pv

set_option maxHeartbeats 2000000
namespace Pv
open PySem PySem.Spec PyProof.Rows L2
/-! ### a def -/
def ioPos : Nat → List Bool → List Nat
  | _, [] => []
  | k, true :: io => k :: ioPos (k + 1) io
  | k, false :: io => ioPos (k + 1) io
def outsOf (rs : List D) (ss : List Nat) : List D := ss.map fun s => rs.getD s .un
def outFl (io : List Bool) : Fl → Option Out
  | .ret d rs => some (.ret d (outsOf rs (ioPos 0 io)))
  | .nx rs => some (.ret .non (outsOf rs (ioPos 0 io)))
  | .exc x _ => some (.exc x)
  | _ => none
/-- what the body of a def gives: n turns at most of a while, L names -/
def evFn (n : Nat) (io : List Bool) (L : Nat) (b : Ss) (ds : List D) : Option Out := ob (evSs n (ioPos 0 io) b (ds ++ List.replicate (L - ds.length) .un)) (outFl io)
section
variable {K : Fr} {mg : Str → Option Value} {G G' H H' : Hp} {fp : FP} {ts : List D} {tv : List V} {rs : List D} {sg : L2.St}
theorem R.dropSlots (r : R K mg G H ts tv rs sg fp) : ∃ fp', R K mg G H ts tv [] [] fp' ∧ Step K G H fp G H fp' := by
  obtain ⟨⟨ft, fs, h1, h2, h3, h4⟩, sub⟩ := r
  exact ⟨ft, ⟨⟨ft, fun _ => False, h1, fun _ z => z, fun _ _ z => z, fun a => by simp⟩, fun a o e => ⟨(sub a o e).1, fun z => (sub a o e).2 ((h4 a).2 (.inl z))⟩⟩, .less fun a z => (h4 a).2 (.inl z)⟩
theorem ioPos_ge : ∀ {io : List Bool} {k s : Nat}, s ∈ ioPos k io → k ≤ s
  | true :: io, k, s, h => by
    simp only [ioPos, List.mem_cons] at h
    rcases h with rfl | h
    · exact Nat.le_refl _
    · exact Nat.le_of_succ_le (ioPos_ge h)
  | false :: io, k, s, h => Nat.le_of_succ_le (ioPos_ge (k := k + 1) h)
  | [], _, _, h => by simp [ioPos] at h
theorem ioPos_nd : ∀ (io : List Bool) (k : Nat), (ioPos k io).Nodup
  | [], _ => List.nodup_nil
  | true :: io, k => List.nodup_cons.mpr ⟨fun z => absurd (ioPos_ge z) (by omega), ioPos_nd io (k + 1)⟩
  | false :: io, k => ioPos_nd io (k + 1)
theorem SV.keep {sg sg' : L2.St} : ∀ {ss : List Nat} {vs : List V}, SV sg ss vs → Kp ss sg sg' → SV sg' ss vs
  | [], [], _, _ => trivial
  | s :: ss, v :: vs, h, k => ⟨(k s List.mem_cons_self).trans h.1, h.2.keep fun t ht => k t (List.mem_cons_of_mem _ ht)⟩
  | [], _ :: _, h, _ => h.elim
  | _ :: _, [], h, _ => h.elim
theorem sv_start : ∀ {io : List Bool} {vs : List V} {k : Nat} {sg : L2.St}, vs.length = io.length → (∀ i v, vs[i]? = some v → sg[k + i]? = some (some v)) → SV sg (ioPos k io) (ioV io vs)
  | [], [], _, _, _, _ => trivial
  | true :: io, v :: vs, k, sg, hl, h => ⟨by simpa using h 0 v rfl, sv_start (by simpa using hl) fun i w e => by
      have := h (i + 1) w (by simpa using e)
      rw [show k + 1 + i = k + (i + 1) by omega]; exact this⟩
  | false :: io, v :: vs, k, sg, hl, h => by
    show SV sg (ioPos (k + 1) io) (ioV io vs)
    exact sv_start (by simpa using hl) fun i w e => by
      have := h (i + 1) w (by simpa using e)
      rw [show k + 1 + i = k + (i + 1) by omega]; exact this
  | [], _ :: _, _, _, hl, _ => by simp at hl
  | _ :: _, [], _, _, hl, _ => by simp at hl
theorem repsO_start : ∀ {ds : List D} {vs : List V} {fp : FP} (n : Nat), Reps K mg G H ds vs fp → RepsO K mg G H (ds ++ List.replicate n .un) (vs.map some ++ List.replicate n none) fp
  | [], [], fp, 0, h => by
    simp only [Reps] at h
    exact h
  | [], [], fp, n + 1, h => by
    have ih := repsO_start (fp := fun _ => False) n (show Reps K mg G H [] [] (fun _ => False) by simp [Reps])
    simp only [Reps] at h
    exact ⟨fun _ => False, fun _ => False, ⟨rfl, fun _ z => z⟩, ih, fun _ z => z.elim, fun a => by simp [h a]⟩
  | d :: ds, v :: vs, fp, n, h => by
    simp only [Reps] at h
    obtain ⟨f1, f2, h1, h2, h3, h4⟩ := h
    exact ⟨f1, f2, h1, repsO_start n h2, h3, h4⟩
  | [], _ :: _, _, _, h => by simp only [Reps] at h
  | _ :: _, [], _, _, h => by simp only [Reps] at h
/-- at a def's end: the answer, the changed ones -/
theorem R.exit {d : D} {v : V} {ss : List Nat} {iv : List V} (r : R K mg G H [d] [v] rs sg fp) (nd : ss.Nodup) (sv : SV sg ss iv) : ∃ fp', R K mg G H (d :: outsOf rs ss) (v :: iv) [] [] fp' ∧ Step K G H fp G H fp' := by
  obtain ⟨f1, f2, h1, r2, dj, e⟩ := r.top
  obtain ⟨f3, r3, st3⟩ := (takeIO r2 nd sv).dropSlots
  have le3 : ∀ a, f3 a → f2 a := fun a z => by
    rcases st3.new a z with q | q
    · rcases r3.there a z with ⟨_, w⟩ | ⟨_, _, _, w⟩ <;> (rw [q] at w; cases w)
    · exact q
  have r4 := r3.push h1 (fun a ha hb => dj a ha (le3 a hb)) fun a o hg z => (r.sub a o hg).2 ((e a).2 (.inl z))
  refine ⟨_, by simpa [outsOf] using r4, .less fun a z => ?_⟩
  rcases z with z | z
  · exact (e a).2 (.inl z)
  · exact (e a).2 (.inr (le3 a z))
end
/-- A DEF KEEPS ITS PROMISE -/
theorem fn_ok {P : Program} {w : World} {K : Fr} {mg : Str → Option Value} {base : Heap} {x qual : Str} {params : Arguments} {body : List Stmt} {scope : Scope} {f : Addr} {fd : FuncData} {N ps : List Str} {km : Nat} {io : List Bool} {m : List D → Option Out} {b : Ss}
    (F : FunD K x qual params body scope [] [] f fd) (S : FnScope N ps scope) (hl : io.length = ps.length) (hkm : 32 ≤ km) (seer : base.NoSeer) (tree : P.given.tree = none)
    (hc : chkSs ⟨N, scope, fun _ => true⟩ b body = true)
    (ho : OkSs ⟨P, w, K, mg, base⟩ km b)
    (hm : ∀ ds o, m ds = some o → ∃ n, evFn n io N.length b ds = some o) : FnOk P w K mg base (L2.CX P w) (km + 1) f fd ps (spOf K mg ⟨io, m⟩) := by
  refine F.ok S (fun vs H Q E h => h.1.trans hl) fun cdv A outer s H vs Q E hr h => ?_
  obtain ⟨hvl, G, fp, ds, o, hreps, hsub, em, hcont⟩ := h
  obtain ⟨n, en⟩ := hm ds o em
  have g : GoodS (cxOf (L2.CX P w) P w K mg base N qual scope f cdv A outer s H E) (fun cls d _ H => E cls d H) ⟨N, scope, fun _ => true⟩ km :=
    { fine := ⟨rfl, S.nd, seer, tree, ⟨_, _, rfl, S.gen, S.co, rfl, rfl⟩, by
          have h1 := hr.dp
          show (A.deeper (envOfC qual scope s.heap.objs.size f cdv)).depth + 100 < recursionLimit
          omega, Nat.lt_of_le_of_lt (Nat.le_refl _) hr.units⟩
      tk := takes_of rfl rfl rfl rfl
      room := hr
      N := rfl
      sc := rfl
      fn := fun _ _ => rfl
      ow := passes_of rfl
      stk := rfl
      fr := rfl
      pos := by omega }
  obtain ⟨t, pt, st⟩ := allSs n (ioPos 0 io) b g body hc ho
  refine ⟨t, pt, ?_⟩
  unfold evFn at en
  obtain ⟨r, er, en⟩ := ob_some en
  have hdl : ds.length = vs.length := reps_len hreps
  have hps : ps.length ≤ N.length := by
    have e := congrArg List.length S.pre
    rw [List.length_take] at e
    omega
  have hR : R K mg G H [] [] (ds ++ List.replicate (N.length - ds.length) .un) (L2.start N vs) fp := by
    refine ⟨⟨fun _ => False, fp, by simp [Reps], ?_, fun _ z => z.elim, fun a => by simp⟩, hsub⟩
    unfold L2.start
    rw [hdl]
    exact repsO_start _ hreps
  have sv0 : SV (L2.start N vs) (ioPos 0 io) (ioV io vs) := sv_start hvl fun i v e => by
    unfold L2.start
    rw [Nat.zero_add, List.getElem?_append_left (by rw [List.length_map]; exact (List.getElem?_eq_some_iff.mp e).1), List.getElem?_map, e]
    rfl
  refine st _ r er (L2.start N vs) G H fp _ hR ?_
  cases r with
  | nx rs =>
    cases en
    intro sg' G' H' fp' stp kp r'
    obtain ⟨f2, r2, st2⟩ := (r'.pushE (d := .non) rep_non).exit (ioPos_nd io 0) (sv0.keep kp)
    exact hcont .non H' G' f2 (stp.trans st2) r2
  | ret d rs =>
    cases en
    intro v sg' G' H' fp' stp kp r'
    obtain ⟨f2, r2, st2⟩ := r'.exit (ioPos_nd io 0) (sv0.keep kp)
    exact hcont v H' G' f2 (stp.trans st2) r2
  | bk rs => cases en
  | ct rs => cases en
  | exc x rs =>
    cases en
    intro cls da sg' G' H' fp' stp kp r' xr
    obtain ⟨f2, r2, st2⟩ := r'.dropSlots
    exact hcont cls da H' G' f2 (stp.trans st2) r2 xr
end Pv

set_option maxHeartbeats 2000000
namespace Pv
open PySem PySem.Spec PyProof.Rows L2
/-! ### the hook: any look at the written part -/
def asP (g : Addr → Option Obj) (n : Nat) : List Addr := (He.asD g n ++ [cStatics, sysModules, builtinsNs]).eraseDups
def obsP (n : Nat) (fn : List He.DefD) (p : Fr → Bool) (g : Addr → Option Obj) : He.AlD := (p (He.frG g (asP g n)) && fn.all fun d => d.ok (He.frG g (asP g n)), fn.map fun d => He.fnW (He.frG g (asP g n)) d.at_)
structure SaysP (fn : List He.DefD) (p : Fr → Bool) (K : Fr) : Prop where
  p : p K = true
  ok : (fn.all fun d => d.ok K) = true
  fn : (fn.map fun d => He.fnW K d.at_) = fn.map He.DefD.val
def hookP (n : Nat) (fn : List He.DefD) (p : Fr → Bool) : PySem.W.Hook where
  α := He.AlD
  obs := fun s => obsP n fn p s.heap.get?
  val := fun _ => He.valD fn
  says := fun _ h => ∃ K : Fr, K.In h ∧ SaysP fn p K
  of := fun _ s e => ⟨_, He.frG_in, by
    have e1 := congrArg (fun z : He.AlD => z.1) e
    have e2 := congrArg (fun z : He.AlD => z.2) e
    have b := Bool.and_eq_true_iff.mp e1
    exact ⟨b.1, b.2, e2⟩⟩
  keeps := fun _ _ _ ⟨K, hK, c⟩ k => ⟨K, PySem.W.Frag.In.keeps hK k, c⟩
theorem obsP_eq {n : Nat} {fn : List He.DefD} {p : Fr → Bool} {g : Addr → Option Obj} {s : Shared} (h : ∀ a, g a = s.heap.get? a) : obsP n fn p g = (hookP n fn p).obs s := by
  have e : g = s.heap.get? := funext h
  rw [e] <;> rfl
theorem SaysP.def_ {fn : List He.DefD} {p : Fr → Bool} {K : Fr} (c : SaysP fn p K) {d : He.DefD} (n : Nat) (e : fn[n]? = some d) : ∃ fd, FunD K d.name d.qual d.params d.body d.scope (d.dvs K) (d.kws K) (He.fAd K d.at_) fd := by
  have h1 := List.all_eq_true.mp c.ok d (List.mem_of_getElem? e)
  have h2 : (fn.map fun d => He.fnW K d.at_)[n]? = (fn.map He.DefD.val)[n]? := by rw [c.fn]
  rw [List.getElem?_map, List.getElem?_map, e] at h2
  exact He.DefD.funD (Option.some.inj h2) h1
/-! ### looks -/
def gloB (K : Fr) (x : Str) : Bool := He.eqO (PySem.W.nsIn K mainGlobals x) (some (some (.ref (He.ga K x))))
def freeB (K : Fr) (x : Str) : Bool := He.eqO (PySem.W.nsIn K mainGlobals x) (some none)
def seerB (K : Fr) : Bool := (PySem.W.nsOkIn K cStatics && (He.eqO (PySem.W.nsIn K cStatics "sys.audit-hooks") (some none) && He.eqO (PySem.W.nsIn K cStatics "sys.dict") (some none))) &&
  ((PySem.W.nsOkIn K sysModules && He.eqO (PySem.W.nsIn K sysModules "_pylong") (some none)) && ((K.lookup builtinsNs).isSome && (match PySem.W.nsIn K mainGlobals "__builtins__" with
    | some (some (.ref bm)) => (match K.lookup bm with
      | some ob => ob.cls == .type "module" && decide (ob.dict = some builtinsNs)
      | none => false)
    | _ => false)))
theorem seer_of {K : Fr} {h base : Heap} {mb mg : Str → Option Value} (X : K.In h) (Y : K.In base) (hb : h.Ns builtinsNs mb) (hbb : ∀ x : Str, x ≠ "__name__" → mb x = bootBuiltins x) (G : base.Ns mainGlobals mg) (c : seerB K = true) : base.NoSeer := by
  obtain ⟨c1, c2⟩ := ands c
  obtain ⟨c1, c3⟩ := ands c1
  obtain ⟨c3, c4⟩ := ands c3
  obtain ⟨c2, c5⟩ := ands c2
  obtain ⟨c2, c6⟩ := ands c2
  obtain ⟨c5, c7⟩ := ands c5
  refine ⟨⟨_, .of_isNs (PySem.W.isNs_of_in Y c1), PySem.W.nsMap_none_of_in Y c1 (He.eqO_ok c3), PySem.W.nsMap_none_of_in Y c1 (He.eqO_ok c4)⟩, ⟨_, .of_isNs (PySem.W.isNs_of_in Y c2), PySem.W.nsMap_none_of_in Y c2 (He.eqO_ok c6)⟩, ⟨mb, ?_, hbb⟩, ?_⟩
  · obtain ⟨o, ho⟩ := Option.isSome_iff_exists.mp c5
    refine hb.at fun o' e => ?_
    have e2 := X _ _ ho
    rw [e] at e2
    cases e2
    exact Y _ _ ho
  · split at c7
    · rename_i bm q
      split at c7
      · rename_i ob lk
        obtain ⟨d1, d2⟩ := ands c7
        exact ⟨mg, bm, ob, G, PySem.W.mg_of Y G q, Y _ _ lk, eq_of_beq d1, of_decide_eq_true d2⟩
      · cases c7
    · cases c7
/-- an own exception class -/
def excB (K : Fr) (C : Str) (ns : List Str) (d : He.DefD) : Bool :=
  (gloB K C && (PySem.W.excInitIn K (He.ga K C) aeT "ArithmeticError.__new__" && PySem.W.excOver K (He.ga K C) aeT)) &&
  ((He.eqO (PySem.W.findIn K (.ref (He.ga K C)) "__setattr__") (some (some (.builtin "object.__setattr__"))) && (He.eqO (PySem.W.findIn K (.ref (He.ga K C)) "__init__") (some (some (.ref (He.fAd K d.at_)))) && decide (PySem.W.typeIn K (.ref (He.fAd K d.at_)) = some (.type "function")))) &&
  ((PySem.W.keepIn K (.ref (He.ga K C)) && (decide (PySem.W.subIn K (.ref (He.ga K C)) (.type "BaseException") = some true) && decide (PySem.W.typeIn K (.ref (He.ga K C)) = some (.type "type")))) &&
  (PySem.W.hasDictIn K (He.ga K C) && ns.all fun f => He.eqO (PySem.W.findIn K (.ref (He.ga K C)) f) (some none))))
theorem exc_of {K : Fr} {h : Heap} {mg : Str → Option Value} {C : Str} {ns : List Str} {d : He.DefD} {fd : FuncData} (X : K.In h) (G : h.Ns mainGlobals mg) (c : excB K C ns d = true) (F : FunD K d.name d.qual d.params d.body d.scope [] [] (He.fAd K d.at_) fd)
    (hb : initB d.scope ns d.body = true) (hB : Binds K fd ("self" :: ns) []) (h1 : d.scope.isCoroutine = false) (h2 : d.scope.isGenerator = false) (h3 : d.scope.kind = .function) (h4 : d.scope.names.lookup ("self" : Str) = some .local)
    (nd : (("self" : Str) :: ns).Nodup) (ne : ns ≠ []) (few : ns.length ≤ 100) : XC K mg C ns (He.ga K C) (He.fAd K d.at_) := by
  obtain ⟨c1, c2⟩ := ands c
  obtain ⟨c1, c3⟩ := ands c1
  obtain ⟨c3, c4⟩ := ands c3
  obtain ⟨c2, c5⟩ := ands c2
  obtain ⟨c2, c6⟩ := ands c2
  obtain ⟨c6, c7⟩ := ands c6
  obtain ⟨c5, c8⟩ := ands c5
  obtain ⟨c5, c9⟩ := ands c5
  obtain ⟨c9, c10⟩ := ands c9
  obtain ⟨c8, c11⟩ := ands c8
  exact { gC := PySem.W.mg_of X G (He.eqO_ok c1), mkC := c3, ov := c4, sa := He.eqO_ok c2, iC := He.eqO_ok c6, tC := of_decide_eq_true c7, kC := c5, exC := of_decide_eq_true c9, tyC := of_decide_eq_true c10, hdC := c8
          no := fun f hf => He.eqO_ok (List.all_eq_true.mp c11 f hf)
          fn := ⟨_, _, _, _, _, fd, F, hb, hB, h1, h2, h3, h4⟩, nd := nd, ne := ne, few := few }
/-- the classes that fly -/
def excCB (K : Fr) (a : Addr) : Bool := (He.eqO (PySem.W.findIn K (.ref a) "__getattribute__") (some (some (.builtin "BaseException.__getattribute__"))) && He.eqO (PySem.W.findIn K (.ref a) "__getattr__") (some none)) &&
  ((decide (PySem.W.subIn K (.ref a) (.type "BaseException") = some true) && (PySem.W.hasDictIn K a && He.eqO (PySem.W.findIn K (.ref a) "__class__") (some (some (.builtin "object.__class__"))))) &&
  (decide (PySem.W.specialIn K (.builtin "object.__class__") "__get__" = some (some (.builtin "getset_descriptor.__get__"))) && (decide (PySem.W.takesIn K (.builtin "object.__class__") = some true) && decide (PySem.W.mroIn K a (.type "object") = some true))))
def tabB (K : Fr) (cs fs bs : List Str) : Bool := (cs.all fun C => gloB K C && (excCB K (He.ga K C) && ((fs.all fun f => He.eqO (PySem.W.findIn K (.ref (He.ga K C)) f) (some none)) &&
  ((cs.all fun C' => decide (PySem.W.exmOne K (.ref (He.ga K C)) (.ref (He.ga K C')) = some (decide (C = C')))) && bs.all fun B => gloB K B && decide (PySem.W.kitOne K (.ref (He.ga K C)) (.ref (He.ga K B)) = some true))))) &&
  (freeB K "isinstance" && freeB K (Str.ofString "tuple"))
theorem tab_of {V : Gv} {h : Heap} {cs fs bs : List Str} (X : V.K.In h) (G : h.Ns mainGlobals V.mg) (c : tabB V.K cs fs bs = true) : XTab V cs fs bs := by
  obtain ⟨c, c2⟩ := ands c
  obtain ⟨c2, c3⟩ := ands c2
  refine ⟨fun C hC => ?_, PySem.W.mg_none_of X G (He.eqO_ok c2), PySem.W.mg_none_of X G (He.eqO_ok c3)⟩
  obtain ⟨d1, d2⟩ := ands (List.all_eq_true.mp c C hC)
  obtain ⟨d2, d3⟩ := ands d2
  obtain ⟨d3, d4⟩ := ands d3
  obtain ⟨d4, d5⟩ := ands d4
  obtain ⟨e1, e2⟩ := ands d2
  obtain ⟨e1, e3⟩ := ands e1
  obtain ⟨e2, e4⟩ := ands e2
  obtain ⟨e2, e5⟩ := ands e2
  obtain ⟨e5, e6⟩ := ands e5
  obtain ⟨e4, e7⟩ := ands e4
  obtain ⟨e7, e8⟩ := ands e7
  refine ⟨He.ga V.K C, PySem.W.mg_of X G (He.eqO_ok d1), ⟨He.eqO_ok e1, He.eqO_ok e3, of_decide_eq_true e2, e5⟩, ⟨He.eqO_ok e1, He.eqO_ok e3, of_decide_eq_true e2, e5, He.eqO_ok e6, of_decide_eq_true e4, of_decide_eq_true e7, of_decide_eq_true e8⟩,
    fun f hf => He.eqO_ok (List.all_eq_true.mp d3 f hf), fun C' hC' => ?_, fun B hB => ?_⟩
  · obtain ⟨f1, _⟩ := ands (List.all_eq_true.mp c C' hC')
    exact ⟨He.ga V.K C', PySem.W.mg_of X G (He.eqO_ok f1), of_decide_eq_true (List.all_eq_true.mp d4 C' hC')⟩
  · obtain ⟨f1, f2⟩ := ands (List.all_eq_true.mp d5 B hB)
    exact ⟨He.ga V.K B, PySem.W.mg_of X G (He.eqO_ok f1), of_decide_eq_true f2⟩
/-- a global that is an int or a text -/
def intB (K : Fr) (x : Str) (i : Int) : Bool := (He.Fa.int x i).ok K
def strB (K : Fr) (x z : Str) : Bool := (He.Fa.str x z).ok K
theorem glHas_int {V : Gv} {h : Heap} {x : Str} {i : Int} (X : V.K.In h) (G : h.Ns mainGlobals V.mg) (c : intB V.K x i = true) : GlHas V x (.int i) := by
  obtain ⟨t, e⟩ := He.int_ok X G c
  exact ⟨.int i, _, e, ⟨t, rfl⟩, fun _ _ => rep_int⟩
theorem glHas_str {V : Gv} {h : Heap} {x z : Str} (X : V.K.In h) (G : h.Ns mainGlobals V.mg) (c : strB V.K x z = true) : GlHas V x (.str z) := by
  obtain ⟨t, e⟩ := He.str_ok X G c
  exact ⟨.str z, _, e, ⟨t, rfl⟩, fun _ _ => rep_str⟩
/-! ### a def by its datum -/
theorem fnHas_of {P : Program} {w : World} {K : Fr} {mg : Str → Option Value} {base h : Heap} {d : He.DefD} {fd : FuncData} {N ps : List Str} {k km : Nat} {io : List Bool} {m : List D → Option Out} {b : Ss}
    (F : FunD K d.name d.qual d.params d.body d.scope [] [] (He.fAd K d.at_) fd) (X : K.In h) (G : h.Ns mainGlobals mg) (x : Str) (hx : d.at_ = (x, none)) (hg : gloB K x = true) (hB : Binds K fd ps []) (S : FnScope N ps d.scope) (hl : io.length = ps.length) (hk : 32 ≤ k) (hkm : k < km) (seer : base.NoSeer) (tree : P.given.tree = none)
    (hc : chkSs ⟨N, d.scope, fun _ => true⟩ b d.body = true) (ho : OkSs ⟨P, w, K, mg, base⟩ k b) (hm : ∀ ds o, m ds = some o → ∃ n, evFn n io N.length b ds = some o) : FnHas ⟨P, w, K, mg, base⟩ km x ⟨io, m⟩ := by
  refine ⟨k + 1, He.fAd K d.at_, fd, ps, hkm, ?_, F.kp, fn_ok F S hl hk seer tree hc ho hm, hB⟩
  rw [hx]
  exact PySem.W.mg_of X G (He.eqO_ok hg)
/-- a def that promises nothing -/
theorem fnHas_nil {P : Program} {w : World} {K : Fr} {mg : Str → Option Value} {base h : Heap} {d : He.DefD} {fd : FuncData} {N ps : List Str} {k km : Nat} {f : Fn}
    (F : FunD K d.name d.qual d.params d.body d.scope [] [] (He.fAd K d.at_) fd) (X : K.In h) (G : h.Ns mainGlobals mg) (x : Str) (hx : d.at_ = (x, none)) (hg : gloB K x = true) (hB : Binds K fd ps []) (S : FnScope N ps d.scope) (hl : f.io.length = ps.length) (hkm : k < km)
    (hm : ∀ ds, f.m ds = none) : FnHas ⟨P, w, K, mg, base⟩ km x f := by
  refine ⟨k + 1, He.fAd K d.at_, fd, ps, hkm, ?_, F.kp, F.ok S (fun vs H Q E h => h.1.trans hl) fun cdv A outer s H vs Q E hr h => ?_, hB⟩
  · rw [hx]
    exact PySem.W.mg_of X G (He.eqO_ok hg)
  · obtain ⟨_, _, _, ds, o, _, _, em, _⟩ := h
    rw [hm ds] at em
    cases em
theorem FnHas.mono {V : Gv} {j k : Nat} {x : Str} {f : Fn} (h : FnHas V j x f) (hjk : j ≤ k) : FnHas V k x f := by
  obtain ⟨k', a, fd, ps, h1, h2⟩ := h.ex
  exact ⟨k', a, fd, ps, Nat.le_trans h1 hjk, h2⟩
/-! ### the end -/
/-- a script -/
def scriptB : List D → Bool
  | [.lst false xs] => match intsOf xs with
    | some ns => decide (ns.length ≤ 63) && ns.all fun n => decide (Builtin.Int.intBits n ≤ 1048576)
    | none => false
  | _ => false
def mLaw (ds : List D) : Option Out := if scriptB ds then some (.ret (.bl true) []) else none
theorem reps_ints {K : Fr} {mg : Str → Option Value} {G H : Hp} : ∀ ns : List Int, Reps K mg G H (ns.map D.int) (ns.map V.int) (fun _ => False)
  | [] => by simp [Reps]
  | n :: ns => by
    simp only [List.map_cons, Reps]
    exact ⟨_, _, rep_int, reps_ints ns, fun _ z => z.elim, fun a => by simp⟩
theorem intsOf_map : ∀ ns : List Int, intsOf (ns.map D.int) = some ns
  | [] => rfl
  | n :: ns => by simp [intsOf, intsOf_map ns]
theorem sp_law {K : Fr} {mg : Str → Option Value} {H : Hp} {a : Addr} {ns : List Int} (hl : ns.length ≤ 63) (hb : ∀ z ∈ ns, Builtin.Int.intBits z ≤ 1048576) (hS : SqL K H a (ns.map V.int)) : spOf K mg ⟨[false], mLaw⟩ [.ref a] H (fun v _ => v = .bl true) fun _ _ _ => False := by
  refine ⟨rfl, H, fun _ => False, [.lst false (ns.map D.int)], .ret (.bl true) [], ?_, fun a o e => ⟨e, fun z => z⟩, ?_, ?_⟩
  · simp only [Reps, Rep]
    exact ⟨fun _ => False, fun _ => False, ⟨a, ns.map V.int, rfl, hS, reps_ints ns, fun _ z => z⟩, fun _ z => z, fun _ z => z.elim, fun a => by simp⟩
  · have e : scriptB [.lst false (ns.map D.int)] = true := by
      simp only [scriptB, intsOf_map]
      simp only [Bool.and_eq_true, decide_eq_true_eq, List.all_eq_true]
      exact ⟨hl, hb⟩
    show (if scriptB [.lst false (ns.map D.int)] = true then _ else _) = _
    rw [if_pos e]
  · intro v H' G' fp' st r
    have k := r.reps
    obtain ⟨h1, _⟩ := vws_cons (show Vws K mg H' [fz (.bl true)] [v] from by
      have := r.viewT
      exact vws_mk this (by simp [Vws, Reps]))
    exact vw_bl h1
theorem walk_P {l : PySem.W.OpenLaw} {k : Nat} {q : Program} {loose : List Str} {XP : (Str → Option Value) → Heap → Prop} {fn : List He.DefD} {p : Fr → Bool} {d : DefRec} {x : Str}
    (hn : l.most = some 63) (hdf : d.params.defaults = []) (hr : Room k callerA)
    (F : ∀ (w : World) (mg mb : Str → Option Value) (fa : Addr) (h : Heap) (K : Fr), K.In h → SaysP fn p K → h.Ns mainGlobals mg → h.Ns builtinsNs mb → (∀ x : Str, x ≠ "__name__" → mb x = bootBuiltins x) → mg d.name = some (.ref fa) →
      ∃ fd : FuncData, (∀ (s : Shared) (u : Value), BindsTo s fd ⟨[u], []⟩ [(x, u)]) ∧ ∀ base : Heap, K.In base → base.Ns mainGlobals mg → FnOk l.prog w K mg base (L2.CX l.prog w) k fa fd [x] (spOf K mg ⟨[false], mLaw⟩)) :
    PySem.W.WalkO q loose XP (fun _ h => ∃ K : Fr, K.In h ∧ SaysP fn p K) l.row.toRowW d [] (fun f vs => PySem.call f vs) := by
  refine Att.attach_callB hn hdf fun w s₀ s₁ mg mb fa o pm cd doc a vs ns G Y ho hd hcd hmg hobj hints hlen hbits hg => ?_
  obtain ⟨K, KX, c⟩ := Y
  obtain ⟨fd, hb, hF⟩ := F w mg mb fa _ K KX c G.T.g G.T.b G.T.builtins hmg
  exact law_call KX G.T.g G.T.b G.T.builtins G.T.nolimit hg hobj hints (Nat.le_trans hlen (by decide)) hr hF hb (fun H hO hS => sp_law hlen hbits hS) fun H e s' z => by
    obtain ⟨_, _, _, _, _, _, _, _, _, _, _, _, z⟩ := z
    exact z
end Pv

set_option maxHeartbeats 2000000
namespace Pv
open PySem PySem.Spec PyProof.Rows L2
/-! ### classes, methods, constructors by looks -/
def clsB (K : Fr) (C : Str) (fs : List Str) : Bool := (gloB K C && (PySem.W.plainGet K (He.ga K C) Str.empty && (PySem.W.hasDictIn K (He.ga K C) && (PySem.W.plainOver K (He.ga K C) && He.eqO (PySem.W.findIn K (.ref (He.ga K C)) "__setattr__") (some (some (.builtin "object.__setattr__"))))))) && fs.all fun f => He.eqO (PySem.W.findIn K (.ref (He.ga K C)) f) (some none)
theorem cls_of {K : Fr} {h : Heap} {mg : Str → Option Value} {C : Str} {fs : List Str} (X : K.In h) (G : h.Ns mainGlobals mg) (c : clsB K C fs = true) : mg C = some (.ref (He.ga K C)) ∧ Cls K (He.ga K C) ∧ ∀ f ∈ fs, NoAttr K (He.ga K C) f := by
  obtain ⟨c1, c2⟩ := ands c
  obtain ⟨c1, c3⟩ := ands c1
  obtain ⟨c3, c4⟩ := ands c3
  obtain ⟨c4, c5⟩ := ands c4
  obtain ⟨c5, c6⟩ := ands c5
  exact ⟨PySem.W.mg_of X G (He.eqO_ok c1), ⟨c3, c4, c5, He.eqO_ok c6⟩, fun f hf => He.eqO_ok (List.all_eq_true.mp c2 f hf)⟩
theorem clsHas_of {V : Gv} {h : Heap} {C : Str} {fs : List Str} (X : V.K.In h) (G : h.Ns mainGlobals V.mg) (c : clsB V.K C fs = true) {f : Str} (hf : f ∈ fs) : ClsHas V C [f] := by
  obtain ⟨h1, h2, h3⟩ := cls_of X G c
  refine ⟨_, h1, h2, fun g hg => ?_⟩
  simp at hg
  subst hg
  exact h3 _ hf
def methB (K : Fr) (C m : Str) (d : He.DefD) : Bool := (He.eqO (PySem.W.findIn K (.ref (He.ga K C)) m) (some (some (.ref (He.fAd K d.at_)))) && PySem.W.isFn K (.ref (He.fAd K d.at_))) && (PySem.W.keepIn K (.ref (He.fAd K d.at_)) && PySem.W.fnIn K (He.fAd K d.at_))
theorem meth_of {K : Fr} {C m : Str} {d : He.DefD} (c : methB K C m d = true) : Meth K (He.ga K C) m (He.fAd K d.at_) ∧ PySem.W.fnIn K (He.fAd K d.at_) = true := by
  obtain ⟨c1, c2⟩ := ands c
  obtain ⟨c1, c3⟩ := ands c1
  obtain ⟨c2, c4⟩ := ands c2
  exact ⟨⟨He.eqO_ok c1, c3, c2⟩, c4⟩
def makeB (K : Fr) (C : Str) (d : He.DefD) : Bool := (gloB K C && PySem.W.makesIn K (He.ga K C)) && (He.eqO (PySem.W.findIn K (.ref (He.ga K C)) "__init__") (some (some (.ref (He.fAd K d.at_)))) && (PySem.W.isFn K (.ref (He.fAd K d.at_)) && PySem.W.keepIn K (.ref (He.ga K C))))
section
variable {P : Program} {w : World} {K : Fr} {mg : Str → Option Value} {base h : Heap} {d : He.DefD} {fd : FuncData} {N ps : List Str} {k km : Nat} {io : List Bool} {m : List D → Option Out} {b : Ss}
theorem methHas_of (F : FunD K d.name d.qual d.params d.body d.scope [] [] (He.fAd K d.at_) fd) (X : K.In h) (G : h.Ns mainGlobals mg) (C n : Str) {fs : List Str} (hC : clsB K C fs = true) (hM : methB K C n d = true) (hB : Binds K fd ps []) (S : FnScope N ps d.scope) (hl : io.length = ps.length) (hk : 32 ≤ k) (hkm : k < km) (seer : base.NoSeer) (tree : P.given.tree = none)
    (hc : chkSs ⟨N, d.scope, fun _ => true⟩ b d.body = true) (ho : OkSs ⟨P, w, K, mg, base⟩ k b) (hm : ∀ ds o, m ds = some o → ∃ n, evFn n io N.length b ds = some o) : MethHas ⟨P, w, K, mg, base⟩ km C n ⟨io, m⟩ := by
  obtain ⟨h1, h2, _⟩ := cls_of X G hC
  exact ⟨_, k + 1, He.fAd K d.at_, fd, ps, h1, h2, (meth_of hM).1, hkm, fn_ok F S hl hk seer tree hc ho hm, hB⟩
theorem specHas_of (F : FunD K d.name d.qual d.params d.body d.scope [] [] (He.fAd K d.at_) fd) (X : K.In h) (G : h.Ns mainGlobals mg) (C n : Str) {fs : List Str} (hC : clsB K C fs = true) (hM : methB K C n d = true) (hB : Binds K fd ps []) (S : FnScope N ps d.scope) (hl : io.length = ps.length) (hk : 32 ≤ k) (hkm : k + 1 < km) (seer : base.NoSeer) (tree : P.given.tree = none)
    (hc : chkSs ⟨N, d.scope, fun _ => true⟩ b d.body = true) (ho : OkSs ⟨P, w, K, mg, base⟩ k b) (hm : ∀ ds o, m ds = some o → ∃ n, evFn n io N.length b ds = some o) : SpecHas ⟨P, w, K, mg, base⟩ km C n ⟨io, m⟩ := by
  obtain ⟨h1, h2, _⟩ := cls_of X G hC
  exact ⟨_, k + 1, He.fAd K d.at_, fd, ps, h1, (meth_of hM).1, (meth_of hM).2, hkm, fn_ok F S hl hk seer tree hc ho hm, hB⟩
theorem makeHas_of (F : FunD K d.name d.qual d.params d.body d.scope [] [] (He.fAd K d.at_) fd) (X : K.In h) (G : h.Ns mainGlobals mg) (C : Str) (hM : makeB K C d = true) (hB : Binds K fd ps []) (S : FnScope N ps d.scope) (hl : io.length = ps.length) (hk : 32 ≤ k) (hkm : k + 1 < km) (seer : base.NoSeer) (tree : P.given.tree = none)
    (hc : chkSs ⟨N, d.scope, fun _ => true⟩ b d.body = true) (ho : OkSs ⟨P, w, K, mg, base⟩ k b) (hm : ∀ ds o, m ds = some o → ∃ n, evFn n io N.length b ds = some o) : MakeHas ⟨P, w, K, mg, base⟩ km C ⟨io, m⟩ := by
  obtain ⟨c1, c2⟩ := ands hM
  obtain ⟨c1, c3⟩ := ands c1
  obtain ⟨c2, c4⟩ := ands c2
  obtain ⟨c4, c5⟩ := ands c4
  exact ⟨_, k + 1, He.fAd K d.at_, fd, ps, PySem.W.mg_of X G (He.eqO_ok c1), ⟨c3, He.eqO_ok c2, c4, c5⟩, hkm, fn_ok F S hl hk seer tree hc ho hm, hB⟩
end
/-! ### a global that is a tuple of ints -/
def tupB (K : Fr) (x : Str) (is : List Int) : Bool := match PySem.W.nsIn K mainGlobals x with
  | some (some (.ref a)) => (match K.lookup a with
    | some o => o.cls == .type "tuple" && (match o.data with
      | .seq its _ => decide (its.size ≤ sizeLine) && He.relAll (is.map L2.V.int) its.toList
      | _ => false)
    | none => false)
  | _ => false
theorem glHas_tup {V : Gv} {h : Heap} {x : Str} {is : List Int} (X : V.K.In h) (G : h.Ns mainGlobals V.mg) (c : tupB V.K x is = true) : GlHas V x (.tup (is.map D.int)) := by
  unfold tupB at c
  split at c
  case h_2 => cases c
  rename_i a e
  split at c
  case h_2 => cases c
  rename_i o lk
  obtain ⟨c1, c2⟩ := ands c
  split at c2
  case h_2 => cases c2
  rename_i its n ed
  obtain ⟨c2, c3⟩ := ands c2
  refine ⟨.ref a, .ref a, PySem.W.mg_of X G e, rfl, fun G H => ?_⟩
  simp only [Rep]
  exact ⟨a, is.map L2.V.int, rfl, .inr ⟨o, its, n, lk, eq_of_beq c1, ed, of_decide_eq_true c2, He.relAll_ok c3⟩, reps_ints is⟩
end Pv

set_option maxHeartbeats 2000000
namespace Pv
open PySem
/-! ### the evaluator, step by step -/
theorem ob_s {A B : Type} (a : A) (f : A → Option B) : ob (some a) f = f a := rfl
theorem ob_n {A B : Type} (f : A → Option B) : ob none f = none := rfl
theorem sc_int (i : Int) : scOnly (some (.int i)) = some (.int i) := rfl
theorem sc_bl (i : Bool) : scOnly (some (.bl i)) = some (.bl i) := rfl
theorem sc_str (i : Str) : scOnly (some (.str i)) = some (.str i) := rfl
theorem sc_non : scOnly (some .non) = some .non := rfl
theorem bd_ok {A B : Type} {a : A} {rs : List D} {f : A → List D → Option (Res B)} : Res.bd (some (.ok a rs)) f = f a rs := rfl
theorem bd_exc {A B : Type} {a : Exc} {rs : List D} {f : A → List D → Option (Res B)} : Res.bd (some (.exc a rs)) f = some (.exc a rs) := rfl
theorem thenE_ok {d : D} {rs : List D} {f : D → List D → Option Fl} : thenE (some (.ok d rs)) f = f d rs := rfl
theorem thenE_exc {x : Exc} {rs : List D} {f : D → List D → Option Fl} : thenE (some (.exc x rs)) f = some (.exc x rs) := rfl
theorem thenT_ok {d : Bool} {rs : List D} {f : Bool → List D → Option Fl} : thenT (some (.ok d rs)) f = f d rs := rfl
theorem thenT_exc {x : Exc} {rs : List D} {f : Bool → List D → Option Fl} : thenT (some (.exc x rs)) f = some (.exc x rs) := rfl
theorem thenA_ok {d : List Arg} {rs : List D} {f : List Arg → List D → Option Fl} : thenA (some (.ok d rs)) f = f d rs := rfl
theorem thenI_ok {d : List D} {rs : List D} {f : List D → List D → Option Fl} : thenI (some (.ok d rs)) f = f d rs := rfl
theorem fl_nx {rs : List D} {f : List D → Option Fl} : Fl.bd (some (.nx rs)) f = f rs := rfl
theorem fl_ret {d : D} {rs : List D} {f : List D → Option Fl} : Fl.bd (some (.ret d rs)) f = some (.ret d rs) := rfl
theorem fl_exc {x : Exc} {rs : List D} {f : List D → Option Fl} : Fl.bd (some (.exc x rs)) f = some (.exc x rs) := rfl
theorem fl_bk {rs : List D} {f : List D → Option Fl} : Fl.bd (some (.bk rs)) f = some (.bk rs) := rfl
theorem fl_ct {rs : List D} {f : List D → Option Fl} : Fl.bd (some (.ct rs)) f = some (.ct rs) := rfl
theorem fl_nil (r : Option Fl) (n : Nat) (io : List Nat) : Fl.bd r (evSs n io .nil) = r := by
  cases r with
  | none => rfl
  | some r => cases r <;> simp [Fl.bd, evSs]
theorem evSs_cons (n : Nat) (io : List Nat) (s : S) (r : Ss) (rs : List D) : evSs n io (.cons s r) rs = Fl.bd (evS n io s rs) (evSs n io r) := by simp only [evSs]
theorem evSs_nil (n : Nat) (io : List Nat) (rs : List D) : evSs n io .nil rs = some (.nx rs) := by simp only [evSs]
section
variable (i j : Int) (a b : Str) (x y : Bool)
theorem d2_add : d2 .add (.int i) (.int j) = some (.int (i + j)) := rfl
theorem d2_sub : d2 .sub (.int i) (.int j) = some (.int (i - j)) := rfl
theorem d2_lt : d2 .lt (.int i) (.int j) = some (.bl (decide (i < j))) := rfl
theorem d2_le : d2 .le (.int i) (.int j) = some (.bl (decide (i ≤ j))) := rfl
theorem d2_gt : d2 .gt (.int i) (.int j) = some (.bl (decide (j < i))) := rfl
theorem d2_ge : d2 .ge (.int i) (.int j) = some (.bl (decide (j ≤ i))) := rfl
theorem d2_eq : d2 .eq (.int i) (.int j) = some (.bl (decide (i = j))) := rfl
theorem d2_ne : d2 .ne (.int i) (.int j) = some (.bl (!decide (i = j))) := rfl
theorem d2_eqs : d2 .eq (.str a) (.str b) = some (.bl (decide (a = b))) := rfl
theorem d2_eqb : d2 .eq (.bl x) (.bl y) = some (.bl (decide (x = y))) := rfl
theorem d2_mul {i j : Int} (h : mulOk i j = true) : d2 .mul (.int i) (.int j) = some (.int (i * j)) := if_pos h
theorem d2_fdiv {i j : Int} (h : j ≠ 0) : d2 .fdiv (.int i) (.int j) = some (.int (i.fdiv j)) := if_neg h
theorem d2_mod {i j : Int} (h : j ≠ 0) : d2 .mod (.int i) (.int j) = some (.int (i.fmod j)) := if_neg h
theorem d2_pow {i j : Int} (h : powOk i j = true) : d2 .pow (.int i) (.int j) = some (.int (i ^ j.toNat)) := if_pos h
theorem d2_isn_non : d2 .isn .non .non = some (.bl true) := rfl
theorem d2_isn_int : d2 .isn (.int i) .non = some (.bl false) := rfl
theorem d2_isn_bl : d2 .isn (.bl x) .non = some (.bl false) := rfl
theorem d2_isn_str : d2 .isn (.str a) .non = some (.bl false) := rfl
theorem d2_isn_tup (l : List D) : d2 .isn (.tup l) .non = some (.bl false) := rfl
theorem d2_isn_lst (o : Bool) (l : List D) : d2 .isn (.lst o l) .non = some (.bl false) := rfl
theorem d2_notn_non : d2 .notn .non .non = some (.bl false) := rfl
theorem d2_notn_int : d2 .notn (.int i) .non = some (.bl true) := rfl
theorem d2_notn_bl : d2 .notn (.bl x) .non = some (.bl true) := rfl
theorem d2_notn_str : d2 .notn (.str a) .non = some (.bl true) := rfl
theorem d2_notn_tup (l : List D) : d2 .notn (.tup l) .non = some (.bl true) := rfl
theorem d2_notn_lst (o : Bool) (l : List D) : d2 .notn (.lst o l) .non = some (.bl true) := rfl
theorem dF_gcd : dF .gcd [.int i, .int j] = some (.int ((Nat.gcd i.natAbs j.natAbs : Nat) : Int)) := rfl
theorem dF_lenL (o : Bool) (l : List D) : dF .len [.lst o l] = some (.int l.length) := rfl
theorem dF_lenT (l : List D) : dF .len [.tup l] = some (.int l.length) := rfl
theorem dF_int : dF .int [.int i] = some (.int i) := rfl
theorem dF_intb : dF .int [.bl x] = some (.int (if x then 1 else 0)) := rfl
theorem dF_abs : dF .abs [.int i] = some (.int (if i < 0 then -i else i)) := rfl
theorem dF_min : dF .min2 [.int i, .int j] = some (.int (if j < i then j else i)) := rfl
theorem dF_max : dF .max2 [.int i, .int j] = some (.int (if j > i then j else i)) := rfl
end
section
variable {α : Type} (a b c d : α)
theorem at2_0 : L2.atI [a, b] 0 = some a := rfl
theorem at2_1 : L2.atI [a, b] 1 = some b := rfl
theorem at3_0 : L2.atI [a, b, c] 0 = some a := rfl
theorem at3_1 : L2.atI [a, b, c] 1 = some b := rfl
theorem at3_2 : L2.atI [a, b, c] 2 = some c := rfl
theorem at4_0 : L2.atI [a, b, c, d] 0 = some a := rfl
theorem at4_1 : L2.atI [a, b, c, d] 1 = some b := rfl
theorem at4_2 : L2.atI [a, b, c, d] 2 = some c := rfl
theorem at4_3 : L2.atI [a, b, c, d] 3 = some d := rfl
end
theorem ix_20 : L2.ixN 2 0 = some 0 := rfl
theorem ix_21 : L2.ixN 2 1 = some 1 := rfl
theorem ix_40 : L2.ixN 4 0 = some 0 := rfl
theorem ix_41 : L2.ixN 4 1 = some 1 := rfl
theorem ix_42 : L2.ixN 4 2 = some 2 := rfl
theorem ix_43 : L2.ixN 4 3 = some 3 := rfl
theorem fzs_ints : ∀ cs : List Int, fzs (cs.map D.int) = cs.map D.int
  | [] => rfl
  | c :: cs => by simp only [List.map_cons, fzs, fz, fzs_ints cs]
theorem at_ints {cs : List Int} {p c : Int} (h0 : 0 ≤ p) (h : cs[p.toNat]? = some c) : L2.atI (cs.map D.int) p = some (.int c) := by
  have hl : p.toNat < cs.length := (List.getElem?_eq_some_iff.mp h).1
  unfold L2.atI L2.ixN
  rw [List.length_map, if_pos h0, if_pos (by omega)]
  show (cs.map D.int)[p.toNat]? = _
  rw [List.getElem?_map, h]
  rfl
theorem un_un : isUn .un = true := rfl
theorem un_non : isUn .non = false := rfl
theorem un_bl (b : Bool) : isUn (.bl b) = false := rfl
theorem un_int (i : Int) : isUn (.int i) = false := rfl
theorem un_str (s : Str) : isUn (.str s) = false := rfl
theorem un_tup (l : List D) : isUn (.tup l) = false := rfl
theorem un_lst (o : Bool) (l : List D) : isUn (.lst o l) = false := rfl
theorem un_obj (o : Bool) (C : Str) (ns : List Str) (l : List D) : isUn (.obj o C ns l) = false := rfl
theorem it_tup (l : List D) : itemsOf (.tup l) = some l := rfl
theorem it_lst (o : Bool) (l : List D) : itemsOf (.lst o l) = some l := rfl
theorem kit_ii : L2.kitB "int" "int" = some true := by decide +kernel
theorem kit_ib : L2.kitB "int" "bool" = some false := by decide +kernel
theorem kit_is : L2.kitB "int" "str" = some false := by decide +kernel
theorem kit_il : L2.kitB "int" "list" = some false := by decide +kernel
theorem kit_it : L2.kitB "int" "tuple" = some false := by decide +kernel
theorem kit_bi : L2.kitB "bool" "int" = some true := by decide +kernel
theorem kit_bb : L2.kitB "bool" "bool" = some true := by decide +kernel
theorem kit_bs : L2.kitB "bool" "str" = some false := by decide +kernel
theorem kit_bl : L2.kitB "bool" "list" = some false := by decide +kernel
theorem kit_bt : L2.kitB "bool" "tuple" = some false := by decide +kernel
theorem kit_si : L2.kitB "str" "int" = some false := by decide +kernel
theorem kit_sb : L2.kitB "str" "bool" = some false := by decide +kernel
theorem kit_ss : L2.kitB "str" "str" = some true := by decide +kernel
theorem kit_sl : L2.kitB "str" "list" = some false := by decide +kernel
theorem kit_st : L2.kitB "str" "tuple" = some false := by decide +kernel
theorem kit_li : L2.kitB "list" "int" = some false := by decide +kernel
theorem kit_lb : L2.kitB "list" "bool" = some false := by decide +kernel
theorem kit_ls : L2.kitB "list" "str" = some false := by decide +kernel
theorem kit_ll : L2.kitB "list" "list" = some true := by decide +kernel
theorem kit_lt : L2.kitB "list" "tuple" = some false := by decide +kernel
theorem kit_ti : L2.kitB "tuple" "int" = some false := by decide +kernel
theorem kit_tb : L2.kitB "tuple" "bool" = some false := by decide +kernel
theorem kit_ts : L2.kitB "tuple" "str" = some false := by decide +kernel
theorem kit_tl : L2.kitB "tuple" "list" = some false := by decide +kernel
theorem kit_tt : L2.kitB "tuple" "tuple" = some true := by decide +kernel
theorem kit_ni : L2.kitB "NoneType" "int" = some false := by decide +kernel
theorem kit_nb : L2.kitB "NoneType" "bool" = some false := by decide +kernel
theorem kit_ns : L2.kitB "NoneType" "str" = some false := by decide +kernel
theorem kit_nl : L2.kitB "NoneType" "list" = some false := by decide +kernel
theorem kit_nt : L2.kitB "NoneType" "tuple" = some false := by decide +kernel
theorem dI_ii (i : Int) : dIs "int" (.int i) = some (.bl true) := by
  show (L2.kitB "int" "int").map D.bl = _
  rw [kit_ii, Option.map_some]
theorem dI_ib (i : Int) : dIs "bool" (.int i) = some (.bl false) := by
  show (L2.kitB "int" "bool").map D.bl = _
  rw [kit_ib, Option.map_some]
theorem dI_is (i : Int) : dIs "str" (.int i) = some (.bl false) := by
  show (L2.kitB "int" "str").map D.bl = _
  rw [kit_is, Option.map_some]
theorem dI_il (i : Int) : dIs "list" (.int i) = some (.bl false) := by
  show (L2.kitB "int" "list").map D.bl = _
  rw [kit_il, Option.map_some]
theorem dI_it (i : Int) : dIs "tuple" (.int i) = some (.bl false) := by
  show (L2.kitB "int" "tuple").map D.bl = _
  rw [kit_it, Option.map_some]
theorem dI_bi (b : Bool) : dIs "int" (.bl b) = some (.bl true) := by
  show (L2.kitB "bool" "int").map D.bl = _
  rw [kit_bi, Option.map_some]
theorem dI_bb (b : Bool) : dIs "bool" (.bl b) = some (.bl true) := by
  show (L2.kitB "bool" "bool").map D.bl = _
  rw [kit_bb, Option.map_some]
theorem dI_bs (b : Bool) : dIs "str" (.bl b) = some (.bl false) := by
  show (L2.kitB "bool" "str").map D.bl = _
  rw [kit_bs, Option.map_some]
theorem dI_bl (b : Bool) : dIs "list" (.bl b) = some (.bl false) := by
  show (L2.kitB "bool" "list").map D.bl = _
  rw [kit_bl, Option.map_some]
theorem dI_bt (b : Bool) : dIs "tuple" (.bl b) = some (.bl false) := by
  show (L2.kitB "bool" "tuple").map D.bl = _
  rw [kit_bt, Option.map_some]
theorem dI_si (s : Str) : dIs "int" (.str s) = some (.bl false) := by
  show (L2.kitB "str" "int").map D.bl = _
  rw [kit_si, Option.map_some]
theorem dI_sb (s : Str) : dIs "bool" (.str s) = some (.bl false) := by
  show (L2.kitB "str" "bool").map D.bl = _
  rw [kit_sb, Option.map_some]
theorem dI_ss (s : Str) : dIs "str" (.str s) = some (.bl true) := by
  show (L2.kitB "str" "str").map D.bl = _
  rw [kit_ss, Option.map_some]
theorem dI_sl (s : Str) : dIs "list" (.str s) = some (.bl false) := by
  show (L2.kitB "str" "list").map D.bl = _
  rw [kit_sl, Option.map_some]
theorem dI_st (s : Str) : dIs "tuple" (.str s) = some (.bl false) := by
  show (L2.kitB "str" "tuple").map D.bl = _
  rw [kit_st, Option.map_some]
theorem dI_li (o : Bool) (l : List D) : dIs "int" (.lst o l) = some (.bl false) := by
  show (L2.kitB "list" "int").map D.bl = _
  rw [kit_li, Option.map_some]
theorem dI_lb (o : Bool) (l : List D) : dIs "bool" (.lst o l) = some (.bl false) := by
  show (L2.kitB "list" "bool").map D.bl = _
  rw [kit_lb, Option.map_some]
theorem dI_ls (o : Bool) (l : List D) : dIs "str" (.lst o l) = some (.bl false) := by
  show (L2.kitB "list" "str").map D.bl = _
  rw [kit_ls, Option.map_some]
theorem dI_ll (o : Bool) (l : List D) : dIs "list" (.lst o l) = some (.bl true) := by
  show (L2.kitB "list" "list").map D.bl = _
  rw [kit_ll, Option.map_some]
theorem dI_lt (o : Bool) (l : List D) : dIs "tuple" (.lst o l) = some (.bl false) := by
  show (L2.kitB "list" "tuple").map D.bl = _
  rw [kit_lt, Option.map_some]
theorem dI_ti (l : List D) : dIs "int" (.tup l) = some (.bl false) := by
  show (L2.kitB "tuple" "int").map D.bl = _
  rw [kit_ti, Option.map_some]
theorem dI_tb (l : List D) : dIs "bool" (.tup l) = some (.bl false) := by
  show (L2.kitB "tuple" "bool").map D.bl = _
  rw [kit_tb, Option.map_some]
theorem dI_ts (l : List D) : dIs "str" (.tup l) = some (.bl false) := by
  show (L2.kitB "tuple" "str").map D.bl = _
  rw [kit_ts, Option.map_some]
theorem dI_tl (l : List D) : dIs "list" (.tup l) = some (.bl false) := by
  show (L2.kitB "tuple" "list").map D.bl = _
  rw [kit_tl, Option.map_some]
theorem dI_tt (l : List D) : dIs "tuple" (.tup l) = some (.bl true) := by
  show (L2.kitB "tuple" "tuple").map D.bl = _
  rw [kit_tt, Option.map_some]
theorem dI_ni  : dIs "int" .non = some (.bl false) := by
  show (L2.kitB "NoneType" "int").map D.bl = _
  rw [kit_ni, Option.map_some]
theorem dI_nb  : dIs "bool" .non = some (.bl false) := by
  show (L2.kitB "NoneType" "bool").map D.bl = _
  rw [kit_nb, Option.map_some]
theorem dI_ns  : dIs "str" .non = some (.bl false) := by
  show (L2.kitB "NoneType" "str").map D.bl = _
  rw [kit_ns, Option.map_some]
theorem dI_nl  : dIs "list" .non = some (.bl false) := by
  show (L2.kitB "NoneType" "list").map D.bl = _
  rw [kit_nl, Option.map_some]
theorem dI_nt  : dIs "tuple" .non = some (.bl false) := by
  show (L2.kitB "NoneType" "tuple").map D.bl = _
  rw [kit_nt, Option.map_some]
theorem cst0 : ((0 : Nat) : Int) = 0 := rfl
theorem cst1 : ((1 : Nat) : Int) = 1 := rfl
theorem cst2 : ((2 : Nat) : Int) = 2 := rfl
theorem cst3 : ((3 : Nat) : Int) = 3 := rfl
theorem cst4 : ((4 : Nat) : Int) = 4 := rfl
theorem cst5 : ((5 : Nat) : Int) = 5 := rfl
theorem cst6 : ((6 : Nat) : Int) = 6 := rfl
theorem cst7 : ((7 : Nat) : Int) = 7 := rfl
theorem cst8 : ((8 : Nat) : Int) = 8 := rfl
theorem cst9 : ((9 : Nat) : Int) = 9 := rfl
theorem cst10 : ((10 : Nat) : Int) = 10 := rfl
theorem cst11 : ((11 : Nat) : Int) = 11 := rfl
theorem cst12 : ((12 : Nat) : Int) = 12 := rfl
theorem mul_of {i j : Int} (a b : Nat) (hi : i.natAbs < 2 ^ a) (hj : j.natAbs < 2 ^ b) (h : a + b ≤ 100000000) (ha : 0 < a) : mulOk i j = true := by
  have key : ∀ (x k : Nat), x < 2 ^ k → 0 < k → x.log2 < k := fun x k h1 h2 => by
    by_cases z : x = 0
    · subst z; simpa using h2
    · exact (Nat.log2_lt z).mpr h1
  have h1 := key _ a hi ha
  unfold mulOk
  refine decide_eq_true ?_
  by_cases hb : b = 0
  · subst hb
    have : j.natAbs = 0 := by omega
    rw [this]
    simp
    omega
  · have h2 := key _ b hj (by omega)
    omega
end Pv

set_option maxHeartbeats 2000000
namespace Pv
open PySem
/-! ### loops by what holds at each turn -/
def nxP (r : Option Fl) (Q : List D → Prop) : Prop := match r with
  | some (.nx rs) => Q rs
  | some (.ct rs) => Q rs
  | _ => False
theorem nxP_nx {rs : List D} {Q : List D → Prop} : nxP (some (.nx rs)) Q = Q rs := rfl
theorem nxP_ct {rs : List D} {Q : List D → Prop} : nxP (some (.ct rs)) Q = Q rs := rfl
def turnP (asg : D → List D → Option (List D)) (body : List D → Option Fl) (d : D) (rs : List D) (Q : List D → Prop) : Prop := match asg d rs with
  | some rs1 => nxP (body rs1) Q
  | none => False
theorem turnP_of {asg : D → List D → Option (List D)} {body : List D → Option Fl} {d : D} {rs rs1 : List D} {Q : List D → Prop} (h : asg d rs = some rs1) (q : nxP (body rs1) Q) : turnP asg body d rs Q := by
  unfold turnP; rw [h]; exact q
theorem for_inv {asg : D → List D → Option (List D)} {body : List D → Option Fl} (P : Nat → List D → Prop) : ∀ (ds : List D) (i : Nat) (rs : List D), P i rs →
    (∀ j d rs, ds[j]? = some d → P (i + j) rs → turnP asg body d rs (P (i + j + 1))) → ∃ rs', forL asg body ds rs = some (.nx rs') ∧ P (i + ds.length) rs'
  | [], i, rs, h, _ => ⟨rs, rfl, h⟩
  | d :: ds, i, rs, h, st => by
    have t := st 0 d rs rfl h
    unfold turnP nxP at t
    simp only [forL]
    cases q : asg d rs with
    | none => rw [q] at t; exact t.elim
    | some rs1 =>
      rw [q] at t
      rw [ob_s]
      have go : ∀ rs2, P (i + 1) rs2 → ∃ rs', forL asg body ds rs2 = some (.nx rs') ∧ P (i + (d :: ds).length) rs' := fun rs2 h2 => by
        obtain ⟨rs', e, p⟩ := for_inv P ds (i + 1) rs2 h2 fun j d' rs' hj hp => by
          have := st (j + 1) d' rs' (by simpa using hj) (by rw [show i + (j + 1) = i + 1 + j by omega]; exact hp)
          rw [show i + (j + 1) + 1 = i + 1 + j + 1 by omega] at this
          exact this
        exact ⟨rs', e, by rw [List.length_cons, show i + (ds.length + 1) = i + 1 + ds.length by omega]; exact p⟩
      dsimp only at t
      split at t
      · rename_i rs2 q2; try rw [q2]
        exact go rs2 t
      · rename_i rs2 q2; try rw [q2]
        exact go rs2 t
      · exact t.elim
/-- over the codes of a list -/
theorem for_map {A : Type} {asg : D → List D → Option (List D)} {body : List D → Option Fl} (enc : A → D) (xs : List A) (P : Nat → List D → Prop) (rs : List D) (h : P 0 rs)
    (st : ∀ j x rs, xs[j]? = some x → P j rs → turnP asg body (enc x) rs (P (j + 1))) : ∃ rs', forL asg body (xs.map enc) rs = some (.nx rs') ∧ P xs.length rs' := by
  obtain ⟨rs', e, p⟩ := for_inv P (xs.map enc) 0 rs h fun j d rs hj hp => by
    rw [List.getElem?_map] at hj
    obtain ⟨x, hx, rfl⟩ := Option.map_eq_some_iff.mp hj
    rw [Nat.zero_add] at hp ⊢
    exact st j x rs hx hp
  rw [Nat.zero_add, List.length_map] at p
  exact ⟨rs', e, p⟩
/-- over a range -/
theorem for_rng {asg : D → List D → Option (List D)} {body : List D → Option Fl} (n : Nat) (P : Nat → List D → Prop) (rs : List D) (h : P 0 rs)
    (st : ∀ j rs, j < n → P j rs → turnP asg body (.int (j : Nat)) rs (P (j + 1))) : ∃ rs', forL asg body (rngD 0 n) rs = some (.nx rs') ∧ P n rs' := by
  obtain ⟨rs', e, p⟩ := for_map (fun i : Nat => D.int (0 + (i : Nat))) (List.range n) P rs h fun j x rs hj hp => by
    obtain ⟨hl, q⟩ := List.getElem?_eq_some_iff.mp hj
    rw [List.getElem_range] at q
    subst q
    have := st j rs (by simpa using hl) hp
    rw [show (0 : Int) + ((j : Nat) : Int) = ((j : Nat) : Int) by omega]
    exact this
  rw [List.length_range] at p
  exact ⟨rs', e, p⟩
/-! ### comprehensions -/
def lcM (asg : D → List D → Option (List D)) (own : List Nat) (cd el : List D → Option (Res D)) (d : D) (rs acc : List D) (Q : List D → List D → Prop) : Prop := match asg d rs with
  | some rs1 => match cd rs1 with
    | some (.ok (.bl true) rs2) => match el rs2 with
      | some (.ok y rs3) => acc.length < 1000000 ∧ Q (wipeD rs3 own) (acc ++ [y])
      | _ => False
    | some (.ok (.bl false) rs2) => Q (wipeD rs2 own) acc
    | _ => False
  | none => False
structure lcP (asg : D → List D → Option (List D)) (own : List Nat) (cd el : List D → Option (Res D)) (d : D) (rs acc : List D) (Q : List D → List D → Prop) : Prop where
  out : lcM asg own cd el d rs acc Q
theorem lcP_eq {asg : D → List D → Option (List D)} {own : List Nat} {cd el : List D → Option (Res D)} {d : D} {rs acc : List D} {Q : List D → List D → Prop} : lcP asg own cd el d rs acc Q = (match asg d rs with
  | some rs1 => match cd rs1 with
    | some (.ok (.bl true) rs2) => match el rs2 with
      | some (.ok y rs3) => acc.length < 1000000 ∧ Q (wipeD rs3 own) (acc ++ [y])
      | _ => False
    | some (.ok (.bl false) rs2) => Q (wipeD rs2 own) acc
    | _ => False
  | none => False) := propext ⟨fun h => h.out, fun h => ⟨h⟩⟩
theorem lc_inv {asg : D → List D → Option (List D)} {own : List Nat} {cd el : List D → Option (Res D)} (P : Nat → List D → List D → Prop) : ∀ (ds : List D) (i : Nat) (rs acc : List D), P i rs acc →
    (∀ j d rs acc, ds[j]? = some d → P (i + j) rs acc → lcP asg own cd el d rs acc (P (i + j + 1))) → ∃ rs' acc', lcL asg own cd el ds rs acc = some (acc', rs') ∧ P (i + ds.length) rs' acc'
  | [], i, rs, acc, h, _ => ⟨rs, acc, rfl, h⟩
  | d :: ds, i, rs, acc, h, st => by
    have t := st 0 d rs acc rfl h
    rw [lcP_eq] at t
    simp only [lcL]
    have go : ∀ rs2 acc2, P (i + 1) rs2 acc2 → ∃ rs' acc', lcL asg own cd el ds rs2 acc2 = some (acc', rs') ∧ P (i + (d :: ds).length) rs' acc' := fun rs2 acc2 h2 => by
      obtain ⟨rs', acc', e, p⟩ := lc_inv P ds (i + 1) rs2 acc2 h2 fun j d' rs' acc' hj hp => by
        have := st (j + 1) d' rs' acc' (by simpa using hj) (by rw [show i + (j + 1) = i + 1 + j by omega]; exact hp)
        rw [show i + (j + 1) + 1 = i + 1 + j + 1 by omega] at this
        exact this
      exact ⟨rs', acc', e, by rw [List.length_cons, show i + (ds.length + 1) = i + 1 + ds.length by omega]; exact p⟩
    cases q : asg d rs with
    | none => rw [q] at t; exact t.elim
    | some rs1 =>
      rw [q] at t
      dsimp only at t ⊢
      split at t
      · rename_i rs2 q2
        try rw [q2]
        try dsimp only
        split at t
        · rename_i y rs3 q3
          try rw [q3]
          try dsimp only
          rw [if_pos t.1]
          exact go _ _ t.2
        · exact t.elim
      · rename_i rs2 q2
        try rw [q2]
        exact go _ _ t
      · exact t.elim
/-- each item by itself -/
theorem lc_map {A : Type} {asg : D → List D → Option (List D)} {own : List Nat} {cd el : List D → Option (Res D)} (enc g : A → D) (xs : List A) (rs : List D) (hl : xs.length < 1000000)
    (st : ∀ x acc, x ∈ xs → acc.length < 1000000 → lcP asg own cd el (enc x) rs acc fun rs' acc' => rs' = rs ∧ acc' = acc ++ [g x]) : lcL asg own cd el (xs.map enc) rs [] = some (xs.map g, rs) := by
  obtain ⟨rs', acc', e, p⟩ := lc_inv (fun i rs' acc => rs' = rs ∧ acc = (xs.take i).map g) (xs.map enc) 0 rs [] ⟨rfl, by simp⟩ fun j d rs' acc hj hp => by
    rw [List.getElem?_map] at hj
    obtain ⟨x, hx, rfl⟩ := Option.map_eq_some_iff.mp hj
    rw [Nat.zero_add] at hp ⊢
    obtain ⟨rfl, rfl⟩ := hp
    have t := st x ((xs.take j).map g) (List.mem_of_getElem? hx) (by simp; omega)
    have et : (xs.take (j + 1)).map g = (xs.take j).map g ++ [g x] := by rw [List.take_succ, hx]; simp
    rw [et]
    exact t
  obtain ⟨rfl, rfl⟩ := p
  rw [e]
  simp
end Pv

set_option maxHeartbeats 2000000
namespace Pv
open PySem
/-! ### goals of a walk -/
/-- a run ends well -/
inductive Go (r : Option Fl) (Q : Fl → Prop) : Prop where
  | mk (fl : Fl) (e : r = some fl) (h : Q fl) : Go r Q
/-- what follows -/
def seqQ (f : List D → Option Fl) (Q : Fl → Prop) : Fl → Prop
  | .nx rs => Go (f rs) Q
  | fl => Q fl
/-- within a loop -/
def lpQ (N : List D → Prop) (Q : Fl → Prop) : Fl → Prop
  | .nx rs => N rs
  | .ct rs => N rs
  | .bk rs => Q (.nx rs)
  | fl => Q fl
section
variable {n : Nat} {io : List Nat} {Q : Fl → Prop} {N : List D → Prop} {f : List D → Option Fl} {rs : List D} {d : D} {x : Exc}
theorem go_some {fl : Fl} : Go (some fl) Q = Q fl := propext ⟨fun ⟨_, e, h⟩ => by cases e; exact h, fun h => ⟨fl, rfl, h⟩⟩
theorem go_none : Go none Q = False := propext ⟨fun ⟨_, e, _⟩ => (nomatch e), fun h => h.elim⟩
theorem go_bd {r : Option Fl} : Go (Fl.bd r f) Q = Go r (seqQ f Q) := by
  cases r with
  | none => rw [show Fl.bd none f = none from rfl, go_none, go_none]
  | some fl =>
    rw [go_some]
    cases fl with
    | nx rs => rfl
    | ret d rs => exact go_some
    | bk rs => exact go_some
    | ct rs => exact go_some
    | exc x rs => exact go_some
theorem go_cons {s : S} {r : Ss} : Go (evSs n io (.cons s r) rs) Q = Go (evS n io s rs) (seqQ (evSs n io r) Q) := by rw [evSs_cons, go_bd]
theorem go_nil : Go (evSs n io .nil rs) Q = Q (.nx rs) := by rw [evSs_nil, go_some]
theorem sq_nx : seqQ f Q (.nx rs) = Go (f rs) Q := rfl
theorem sq_ret : seqQ f Q (.ret d rs) = Q (.ret d rs) := rfl
theorem sq_exc : seqQ f Q (.exc x rs) = Q (.exc x rs) := rfl
theorem sq_bk : seqQ f Q (.bk rs) = Q (.bk rs) := rfl
theorem sq_ct : seqQ f Q (.ct rs) = Q (.ct rs) := rfl
theorem lq_nx : lpQ N Q (.nx rs) = N rs := rfl
theorem lq_ct : lpQ N Q (.ct rs) = N rs := rfl
theorem lq_bk : lpQ N Q (.bk rs) = Q (.nx rs) := rfl
theorem lq_ret : lpQ N Q (.ret d rs) = Q (.ret d rs) := rfl
theorem lq_exc : lpQ N Q (.exc x rs) = Q (.exc x rs) := rfl
end
/-- a loop by what holds at each turn -/
theorem go_forL {asg : D → List D → Option (List D)} {body : List D → Option Fl} {Q : Fl → Prop} (P : Nat → List D → Prop) : ∀ (ds : List D) (i : Nat) (rs : List D), P i rs →
    (∀ j d rs, ds[j]? = some d → P (i + j) rs → ∃ rs1, asg d rs = some rs1 ∧ Go (body rs1) (lpQ (P (i + j + 1)) Q)) → (∀ rs', P (i + ds.length) rs' → Q (.nx rs')) → Go (forL asg body ds rs) Q
  | [], i, rs, h, _, k => by
    rw [show forL asg body [] rs = some (.nx rs) from rfl, go_some]; exact k rs h
  | d :: ds, i, rs, h, st, k => by
    obtain ⟨rs1, e, t⟩ := st 0 d rs rfl h
    simp only [forL]
    rw [e, ob_s]
    have go : ∀ rs2, P (i + 1) rs2 → Go (forL asg body ds rs2) Q := fun rs2 h2 => go_forL P ds (i + 1) rs2 h2 (fun j d' rs' hj hp => by
      have := st (j + 1) d' rs' (by simpa using hj) (by rw [show i + (j + 1) = i + 1 + j by omega]; exact hp)
      rw [show i + (j + 1) + 1 = i + 1 + j + 1 by omega] at this
      exact this) fun rs' hp => k rs' (by rw [List.length_cons, show i + (ds.length + 1) = i + 1 + ds.length by omega]; exact hp)
    cases q : body rs1 with
    | none => rw [q, go_none] at t; exact t.elim
    | some fl =>
      rw [q, go_some] at t
      cases fl with
      | nx rs2 => exact go rs2 t
      | ct rs2 => exact go rs2 t
      | bk rs2 => dsimp only; rw [go_some]; exact t
      | ret d rs2 => dsimp only; rw [go_some]; exact t
      | exc x rs2 => dsimp only; rw [go_some]; exact t
/-- over the codes of a list -/
theorem go_for {A : Type} {asg : D → List D → Option (List D)} {body : List D → Option Fl} {Q : Fl → Prop} {rs : List D} {enc : A → D} {xs : List A} (P : Nat → List D → Prop) (h : P 0 rs)
    (st : ∀ j x rs, xs[j]? = some x → P j rs → ∃ rs1, asg (enc x) rs = some rs1 ∧ Go (body rs1) (lpQ (P (j + 1)) Q)) (k : ∀ rs', P xs.length rs' → Q (.nx rs')) : Go (forL asg body (xs.map enc) rs) Q :=
  go_forL P (xs.map enc) 0 rs h (fun j d rs hj hp => by
    rw [List.getElem?_map] at hj
    obtain ⟨x, hx, rfl⟩ := Option.map_eq_some_iff.mp hj
    rw [Nat.zero_add] at hp ⊢
    exact st j x rs hx hp) fun rs' hp => k rs' (by rw [Nat.zero_add, List.length_map] at hp; exact hp)
/-- over a range -/
theorem go_rng {asg : D → List D → Option (List D)} {body : List D → Option Fl} {Q : Fl → Prop} {rs : List D} {lo : Int} {n : Nat} (P : Nat → List D → Prop) (h : P 0 rs)
    (st : ∀ j rs, j < n → P j rs → ∃ rs1, asg (.int (lo + (j : Nat))) rs = some rs1 ∧ Go (body rs1) (lpQ (P (j + 1)) Q)) (k : ∀ rs', P n rs' → Q (.nx rs')) : Go (forL asg body (rngD lo n) rs) Q :=
  go_for (enc := fun i : Nat => D.int (lo + (i : Nat))) (xs := List.range n) P h (fun j x rs hj hp => by
    obtain ⟨hl, q⟩ := List.getElem?_eq_some_iff.mp hj
    rw [List.getElem_range] at q
    subst q
    exact st j rs (by simpa using hl) hp) fun rs' hp => k rs' (by rw [List.length_range] at hp; exact hp)
theorem go_rng0 {asg : D → List D → Option (List D)} {body : List D → Option Fl} {Q : Fl → Prop} {rs : List D} {n : Nat} (P : Nat → List D → Prop) (h : P 0 rs)
    (st : ∀ j rs, j < n → P j rs → ∃ rs1, asg (.int (j : Nat)) rs = some rs1 ∧ Go (body rs1) (lpQ (P (j + 1)) Q)) (k : ∀ rs', P n rs' → Q (.nx rs')) : Go (forL asg body (rngD 0 n) rs) Q :=
  go_rng P h (fun j rs hj hp => by
    have := st j rs hj hp
    rw [show (0 : Int) + ((j : Nat) : Int) = ((j : Nat) : Int) by omega]
    exact this) k
/-- over a list as it lies -/
theorem go_seq {asg : D → List D → Option (List D)} {body : List D → Option Fl} {Q : Fl → Prop} {rs ds : List D} (P : Nat → List D → Prop) (h : P 0 rs)
    (st : ∀ j d rs, ds[j]? = some d → P j rs → ∃ rs1, asg d rs = some rs1 ∧ Go (body rs1) (lpQ (P (j + 1)) Q)) (k : ∀ rs', P ds.length rs' → Q (.nx rs')) : Go (forL asg body ds rs) Q :=
  go_forL P ds 0 rs h (fun j d rs hj hp => by rw [Nat.zero_add] at hp ⊢; exact st j d rs hj hp) fun rs' hp => k rs' (by rw [Nat.zero_add] at hp; exact hp)
/-- a while -/
theorem go_whl {cond : List D → Option (Res Bool)} {body : List D → Option Fl} {Q : Fl → Prop} (P : Nat → List D → Prop)
    (st : ∀ m rs, P m rs → ∃ b rs1, cond rs = some (.ok b rs1) ∧ (b = false → Q (.nx rs1)) ∧ (b = true → Go (body rs1) (lpQ (fun rs2 => ∃ m', m' < m ∧ P m' rs2) Q))) : ∀ (m n : Nat) (rs : List D), m < n → P m rs → Go (whlL cond body n rs) Q
  | m, 0, rs, hl, _ => by omega
  | m, n + 1, rs, hl, hp => by
    obtain ⟨b, rs1, e, hf, ht⟩ := st m rs hp
    simp only [whlL]
    rw [e, thenT_ok]
    cases b with
    | false => rw [if_neg Bool.false_ne_true, go_some]; exact hf rfl
    | true =>
      have t := ht rfl
      rw [if_pos rfl]
      have go : ∀ rs2, (∃ m', m' < m ∧ P m' rs2) → Go (whlL cond body n rs2) Q := fun rs2 ⟨m', hm, hp'⟩ => go_whl P st m' n rs2 (by omega) hp'
      cases q : body rs1 with
      | none => rw [q, go_none] at t; exact t.elim
      | some fl =>
        rw [q, go_some] at t
        cases fl with
        | nx rs2 => exact go rs2 t
        | ct rs2 => exact go rs2 t
        | bk rs2 => dsimp only; rw [go_some]; exact t
        | ret d rs2 => dsimp only; rw [go_some]; exact t
        | exc x rs2 => dsimp only; rw [go_some]; exact t
/-! ### comprehensions in place -/
def lcR (own : List Nat) : Option (List D × List D) → Option (Res D)
  | some p => some (.ok (.lst true p.1) (wipeD p.2 own))
  | none => none
theorem lcD_eq (t : Tg) (own : List Nat) (it : List D → Option (Res (List D))) (cd el : List D → Option (Res D)) (rs : List D) : lcD t own it cd el rs = Res.bd (it rs) fun ds rs1 => lcR own (lcL (tgA [] t) own cd el ds (wipeD rs1 own) []) := by
  unfold lcD
  congr
theorem lcR_some {own : List Nat} {p : List D × List D} : lcR own (some p) = some (.ok (.lst true p.1) (wipeD p.2 own)) := rfl
/-- one that changes something, followed by f -/
theorem go_lc {asg : D → List D → Option (List D)} {own : List Nat} {cd el : List D → Option (Res D)} {f : D → List D → Option Fl} {Q : Fl → Prop} {ds rs : List D} (P : Nat → List D → List D → Prop) (h : P 0 rs [])
    (st : ∀ j d rs acc, ds[j]? = some d → P j rs acc → lcP asg own cd el d rs acc (P (j + 1))) (k : ∀ rs' acc', P ds.length rs' acc' → Go (f (.lst true acc') (wipeD rs' own)) Q) : Go (thenE (lcR own (lcL asg own cd el ds rs [])) f) Q := by
  obtain ⟨rs', acc', e, p⟩ := lc_inv P ds 0 rs [] h fun j d rs acc hj hp => by rw [Nat.zero_add] at hp ⊢; exact st j d rs acc hj hp
  rw [Nat.zero_add] at p
  rw [e, lcR_some, thenE_ok]
  exact k rs' acc' p
/-- each item by itself -/
theorem lc_each {A : Type} {asg : D → List D → Option (List D)} {own : List Nat} {cd el : List D → Option (Res D)} {enc : A → D} {xs : List A} {rs : List D} (g : A → D) (hl : xs.length < 1000000)
    (st : ∀ x acc, x ∈ xs → acc.length < 1000000 → lcP asg own cd el (enc x) rs acc fun rs' acc' => rs' = rs ∧ acc' = acc ++ [g x]) : lcL asg own cd el (xs.map enc) rs [] = some (xs.map g, rs) := lc_map enc g xs rs hl st
theorem lc_rng {asg : D → List D → Option (List D)} {own : List Nat} {cd el : List D → Option (Res D)} {n : Nat} {rs : List D} (g : Nat → D) (hl : n < 1000000)
    (st : ∀ j acc, j < n → acc.length < 1000000 → lcP asg own cd el (.int (j : Nat)) rs acc fun rs' acc' => rs' = rs ∧ acc' = acc ++ [g j]) : lcL asg own cd el (rngD 0 n) rs [] = some ((List.range n).map g, rs) :=
  lc_map (fun i : Nat => D.int (0 + (i : Nat))) g (List.range n) rs (by simpa using hl) fun j acc hj ha => by
    rw [show (0 : Int) + ((j : Nat) : Int) = ((j : Nat) : Int) by omega]
    exact st j acc (by simpa using hj) ha
/-- some of them -/
theorem lc_some {A : Type} {asg : D → List D → Option (List D)} {own : List Nat} {cd el : List D → Option (Res D)} {enc : A → D} {xs : List A} {rs : List D} (p : A → Bool) (g : A → D) (hl : xs.length < 1000000)
    (st : ∀ x acc, x ∈ xs → acc.length < 1000000 → lcP asg own cd el (enc x) rs acc fun rs' acc' => rs' = rs ∧ acc' = if p x then acc ++ [g x] else acc) : lcL asg own cd el (xs.map enc) rs [] = some ((xs.filter p).map g, rs) := by
  obtain ⟨rs', acc', e, q⟩ := lc_inv (fun i rs' acc => rs' = rs ∧ acc = ((xs.take i).filter p).map g) (xs.map enc) 0 rs [] ⟨rfl, by simp⟩ fun j d rs' acc hj hp => by
    rw [List.getElem?_map] at hj
    obtain ⟨x, hx, rfl⟩ := Option.map_eq_some_iff.mp hj
    rw [Nat.zero_add] at hp ⊢
    obtain ⟨rfl, rfl⟩ := hp
    have lf : (((xs.take j).filter p).map g).length < 1000000 := by
      have := List.length_filter_le p (xs.take j)
      rw [List.length_map]
      rw [List.length_take] at this
      omega
    have t := st x (((xs.take j).filter p).map g) (List.mem_of_getElem? hx) lf
    have et : ((xs.take (j + 1)).filter p).map g = if p x then ((xs.take j).filter p).map g ++ [g x] else ((xs.take j).filter p).map g := by
      rw [List.take_succ, hx]
      simp only [Option.toList_some, List.filter_append, List.map_append]
      cases q : p x <;> simp [List.filter, q]
    rw [et]
    exact t
  obtain ⟨rfl, rfl⟩ := q
  rw [e]
  simp
/-! ### a def's answer -/
theorem out_ret {io : List Bool} {d : D} {rs : List D} : outFl io (.ret d rs) = some (.ret d (outsOf rs (ioPos 0 io))) := rfl
theorem out_nx {io : List Bool} {rs : List D} : outFl io (.nx rs) = some (.ret .non (outsOf rs (ioPos 0 io))) := rfl
theorem out_exc {io : List Bool} {x : Exc} {rs : List D} : outFl io (.exc x rs) = some (.exc x) := rfl
theorem fn_go {n L : Nat} {io : List Bool} {b : Ss} {ds : List D} {o : Out} (h : Go (evSs n (ioPos 0 io) b (ds ++ List.replicate (L - ds.length) .un)) fun fl => outFl io fl = some o) : evFn n io L b ds = some o := by
  unfold evFn
  cases q : evSs n (ioPos 0 io) b (ds ++ List.replicate (L - ds.length) .un) with
  | none => rw [q, go_none] at h; exact h.elim
  | some fl => rw [q, go_some] at h; exact h
theorem fn_goE {n L : Nat} {io : List Bool} {b : Ss} {ds : List D} {T : Out → Prop} (h : Go (evSs n (ioPos 0 io) b (ds ++ List.replicate (L - ds.length) .un)) fun fl => ∃ o, outFl io fl = some o ∧ T o) : ∃ o, evFn n io L b ds = some o ∧ T o := by
  unfold evFn
  cases q : evSs n (ioPos 0 io) b (ds ++ List.replicate (L - ds.length) .un) with
  | none => rw [q, go_none] at h; exact h.elim
  | some fl => rw [q, go_some] at h; exact h
end Pv

set_option maxHeartbeats 4000000
namespace Pv
local macro_rules
  | `(tactic| simp! only [$ls,*] $[$loc:location]?) => `(tactic| simp -implicitDefEqProofs only [evS, evT, evE, evP, evPs, evV, evA, evAnd, evOr, evI, Pv.a0, Pv.a1, Pv.v0, Pv.v1, opd, slotOf, satOp, Pv.two, Pv.one, ob_s, ob_n, sc_int, sc_bl, sc_str, sc_non, bd_ok, bd_exc, thenE_ok, thenE_exc, thenT_ok, thenT_exc, thenA_ok, thenI_ok, fl_nx, fl_ret, fl_exc, fl_bk, fl_ct, fl_nil, evSs_nil, asBl, asInt, un_non, un_bl, un_int, un_str, un_tup, un_lst, un_obj, un_un, fz, fzs, isSc, isScs, isFz, isFzs, isOwn, isOwns, dNeg, dT, tgA, setAll, okS, res, at2, it_tup, it_lst, chnD, lItems, tmps, cpyLoc, cpyTmp, ixTmp, ioPos, wipeD, out_ret, out_nx, out_exc, outsOf, and_self, and_true, true_and, false_and, and_false, fzs_ints, Pv.sto1, Pv.sto2, ownItems, at2_0, at2_1, at3_0, at3_1, at3_2, at4_0, at4_1, at4_2, at4_3, ix_20, ix_21, ix_40, ix_41, ix_42, ix_43, List.length_map, isFzs, d2_add, d2_sub, d2_lt, d2_le, d2_gt, d2_ge, d2_eq, d2_ne, d2_eqs, d2_eqb, d2_isn_non, d2_isn_int, d2_isn_bl, d2_isn_str, d2_isn_tup, d2_isn_lst, d2_notn_non, d2_notn_int, d2_notn_bl, d2_notn_str, d2_notn_tup, d2_notn_lst, d2_mod, d2_fdiv, Int.reduceToNat, Int.reducePow, Int.reduceEq, Int.reduceLT, Int.reduceLE, Int.reduceNeg, Int.reduceMul, Int.reduceAdd, Int.reduceSub, cst0, cst1, cst2, cst3, cst4, cst5, cst6, cst7, cst8, cst9, cst10, cst11, cst12, go_some, go_nil, sq_nx, sq_ret, sq_exc, sq_bk, sq_ct, lq_nx, lq_ct, lq_bk, lq_ret, lq_exc, lcD_eq, lcR_some, Int.toNat_natCast, ne_eq, not_false_eq_true, not_true_eq_false, dF_gcd, dF_lenL, dF_lenT, dF_int, dF_intb, dF_abs, dF_min, dF_max, dI_ii, dI_ib, dI_is, dI_il, dI_it, dI_bi, dI_bb, dI_bs, dI_bl, dI_bt, dI_si, dI_sb, dI_ss, dI_sl, dI_st, dI_li, dI_lb, dI_ls, dI_ll, dI_lt, dI_ti, dI_tb, dI_ts, dI_tl, dI_tt, dI_ni, dI_nb, dI_ns, dI_nl, dI_nt, Option.map_some, List.length_cons, List.length_nil, List.getElem?_cons_zero, List.getElem?_cons_succ, List.getElem?_nil, List.set_cons_zero, List.set_cons_succ, List.set_nil, List.map_cons, List.map_nil, List.cons_append, List.nil_append, List.append_nil, List.replicate, List.getD_cons_zero, List.getD_cons_succ, List.contains_nil, List.contains_cons, Nat.reduceBEq, Bool.or_false, Bool.false_or, Bool.or_self, Bool.or_true, Bool.true_or, List.isEmpty_nil, List.isEmpty_cons, decide_true, decide_false, if_true, if_false, Bool.false_eq_true, Bool.not_true, Bool.not_false, Bool.and_true, Bool.true_and, Bool.and_self, Bool.and_false, Bool.false_and, reduceIte, Nat.zero_add, Nat.reduceAdd, Nat.reduceSub, Nat.reduceLT, Nat.reduceLeDiff, Nat.reduceEqDiff, decide_eq_true_eq, eq_self, Option.some.injEq, reduceCtorEq, Nat.lt_irrefl, $ls,*] $[$loc]?)
open PySem
/-! ### is it an int, and no bool -/
def isIntD : D → Bool
  | .int _ => true
  | _ => false
def m_is_int : List D → Option Out
  | [d] => match tyName d with
    | some _ => some (.ret (.bl (isIntD d)) [])
    | none => none
  | _ => none
def F_L_is_int : Fn := ⟨[false], m_is_int⟩
def F_is_whole : Fn := ⟨[false], m_is_int⟩
def b_L_is_int : Ss := .cons (.ret (.land (.cons (.pk (.isi (.var 0) "int")) (.cons (.lnot (.pk (.isi (.var 0) "bool"))) (.nil))))) (.nil)
def n_L_is_int : Nat := 1
def b_is_whole : Ss := .cons (.ret (.land (.cons (.pk (.isi (.var 0) "int")) (.cons (.lnot (.pk (.isi (.var 0) "bool"))) (.nil))))) (.nil)
def n_is_whole : Nat := 1
theorem hm_L_is_int : ∀ ds o, m_is_int ds = some o → ∃ n, evFn n [false] 1 b_L_is_int ds = some o := by
  intro ds o h
  refine ⟨0, ?_⟩
  match ds, h with
  | [d], h =>
    cases d <;> first | (cases h; done) | (cases h; rfl)
/-! ### lowest terms -/
def lowI (a b : Int) : Int × Int := (if b < 0 then ((-a).fdiv (Nat.gcd a.natAbs b.natAbs : Nat), (-b).fdiv (Nat.gcd a.natAbs b.natAbs : Nat)) else (a.fdiv (Nat.gcd a.natAbs b.natAbs : Nat), b.fdiv (Nat.gcd a.natAbs b.natAbs : Nat)))
def frD (p : Int × Int) : D := .tup [.int p.1, .int p.2]
def m_low : List D → Option Out
  | [.int a, .int b] => if b = 0 then none else some (.ret (frD (lowI a b)) [])
  | _ => none
def F_lowest : Fn := ⟨[false, false], m_low⟩
def F_L_low : Fn := ⟨[false, false], m_low⟩
def b_lowest : Ss := .cons (.ite (.pk (.op2 .lt (.var 1) (.con (.int 0)))) (.cons (.asg (.nm 0) (.pk (.neg (.var 0)))) (.cons (.asg (.nm 1) (.pk (.neg (.var 1)))) (.nil))) (.nil)) (.cons (.asg (.nm 2) (.pk (.fnc .gcd (.cons (.var 0) (.cons (.var 1) (.nil)))))) (.cons (.ret (.tup (.cons (.pk (.op2 .fdiv (.var 0) (.var 2))) (.cons (.pk (.op2 .fdiv (.var 1) (.var 2))) (.nil))))) (.nil)))
def n_lowest : Nat := 3
theorem gcd_ne {a b : Int} (h : b ≠ 0) : ((Nat.gcd a.natAbs b.natAbs : Nat) : Int) ≠ 0 := fun z => by
  have := (Nat.gcd_eq_zero_iff.mp (Int.ofNat.inj z)).2
  omega
theorem hm_lowest : ∀ ds o, m_low ds = some o → ∃ n, evFn n [false, false] 3 b_lowest ds = some o := by
  intro ds o h
  refine ⟨0, ?_⟩
  match ds, h with
  | [.int a, .int b], h =>
    simp only [m_low] at h
    split at h
    · cases h
    rename_i hb
    cases h
    have g := gcd_ne (a := a) hb
    unfold evFn b_lowest
    by_cases c : b < 0
    · have g2 : ((Nat.gcd (-a).natAbs (-b).natAbs : Nat) : Int) ≠ 0 := by rw [Int.natAbs_neg, Int.natAbs_neg]; exact g
      rw [evSs_cons]; simp! only [evSs_cons, c, d2_fdiv g2, Int.natAbs_neg, d2_fdiv g, lowI, frD]
    · rw [evSs_cons]; simp! only [evSs_cons, c, d2_fdiv g, lowI, frD]
theorem hm_is_whole : ∀ ds o, m_is_int ds = some o → ∃ n, evFn n [false] 1 b_is_whole ds = some o := hm_L_is_int
def b_L_gcd : Ss := .cons (.whl (.pk (.op2 .ne (.var 1) (.con (.int 0)))) (.cons (.asg (.nm 2) (.pk (.op2 .mod (.fnc .int (.cons (.var 0) (.nil))) (.var 1)))) (.cons (.asg (.nm 0) (.var 1)) (.cons (.asg (.nm 1) (.var 2)) (.nil))))) (.cons (.ret (.var 0)) (.nil))
def n_L_gcd : Nat := 3
def m_gcd : List D → Option Out
  | [.int a, .int b] => if 0 ≤ a ∧ 0 ≤ b then some (.ret (.int ((Nat.gcd a.natAbs b.natAbs : Nat) : Int)) []) else none
  | _ => none
def F_L_gcd : Fn := ⟨[false, false], m_gcd⟩
theorem gcd_loop : ∀ (b : Nat) (a : Nat) (d : D), ∃ n d', ∀ m n0, n ≤ m → whlL (evT (.pk (.op2 .ne (.var 1) (.con (.int 0))))) (evSs n0 [] (.cons (.asg (.nm 2) (.pk (.op2 .mod (.fnc .int (.cons (.var 0) (.nil))) (.var 1)))) (.cons (.asg (.nm 0) (.var 1)) (.cons (.asg (.nm 1) (.var 2)) (.nil))))) m [.int a, .int b, d] = some (.nx [.int (Nat.gcd a b : Nat), .int 0, d']) := by
  intro b
  induction b using Nat.strongRecOn with
  | _ b ih =>
    intro a d
    by_cases hb : b = 0
    · subst hb
      refine ⟨1, d, fun m n0 hm => ?_⟩
      obtain ⟨m, rfl⟩ : ∃ k, m = k + 1 := ⟨m - 1, by omega⟩
      simp only [whlL]
      simp! only [Int.ofNat_eq_zero, Nat.gcd_zero_right]
    · have hb' : (b : Int) ≠ 0 := by omega
      obtain ⟨n, d', h⟩ := ih (a % b) (Nat.mod_lt _ (by omega)) b (.int ((a % b : Nat) : Int))
      refine ⟨n + 1, d', fun m n0 hm => ?_⟩
      obtain ⟨m, rfl⟩ : ∃ k, m = k + 1 := ⟨m - 1, by omega⟩
      have e : (a : Int).fmod b = ((a % b : Nat) : Int) := by
        rw [Int.fmod_eq_emod_of_nonneg _ (by omega)]
        rfl
      simp only [whlL]
      simp! only [hb', evSs_cons, d2_mod hb', e, ne_eq, not_false_eq_true]
      rw [h m n0 (by omega), Nat.gcd_comm a b, Nat.gcd_comm b (a % b), ← Nat.gcd_rec b a]
theorem hm_L_gcd : ∀ ds o, m_gcd ds = some o → ∃ n, evFn n [false, false] 3 b_L_gcd ds = some o := by
  intro ds o h
  match ds, h with
  | [.int a, .int b], h =>
    simp only [m_gcd] at h
    split at h
    case isFalse => cases h
    rename_i hab
    cases h
    obtain ⟨n, d', hn⟩ := gcd_loop b.natAbs a.natAbs .un
    have ea : ((a.natAbs : Nat) : Int) = a := by omega
    have eb : ((b.natAbs : Nat) : Int) = b := by omega
    rw [ea, eb] at hn
    refine ⟨n, ?_⟩
    unfold evFn b_L_gcd
    simp! only [evSs_cons, hn n n (Nat.le_refl _)]
/-! ### lowest terms, reckoned by the law's own gcd -/
def b_L_low : Ss := .cons (.ite (.pk (.op2 .lt (.var 1) (.con (.int 0)))) (.cons (.asg (.nm 0) (.pk (.op2 .sub (.con (.int 0)) (.var 0)))) (.cons (.asg (.nm 1) (.pk (.op2 .sub (.con (.int 0)) (.var 1)))) (.nil))) (.nil)) (.cons (.asg (.nm 2) (.call "_law_gcd" F_L_gcd (.cons (.pk (.fnc .abs (.cons (.var 0) (.nil)))) (.cons (.var 1) (.nil))))) (.cons (.ret (.tup (.cons (.pk (.op2 .fdiv (.var 0) (.var 2))) (.cons (.pk (.op2 .fdiv (.var 1) (.var 2))) (.nil))))) (.nil)))
def n_L_low : Nat := 3
theorem hm_L_low : ∀ ds o, m_low ds = some o → ∃ n, evFn n [false, false] 3 b_L_low ds = some o := by
  intro ds o h
  refine ⟨0, ?_⟩
  match ds, h with
  | [.int a, .int b], h =>
    simp only [m_low] at h
    split at h
    · cases h
    rename_i hb
    cases h
    have g := gcd_ne (a := a) hb
    have hg : ∀ x y : Int, 0 ≤ x → 0 ≤ y → m_gcd [.int x, .int y] = some (.ret (.int ((Nat.gcd x.natAbs y.natAbs : Nat) : Int)) []) := fun x y h1 h2 => if_pos ⟨h1, h2⟩
    unfold evFn b_L_low
    have ab : (if a < 0 then -a else a) = (a.natAbs : Int) := by split <;> omega
    have ab2 : (if 0 - a < 0 then -(0 - a) else 0 - a) = (a.natAbs : Int) := by split <;> omega
    by_cases c : b < 0
    · rw [evSs_cons]; simp! only [evSs_cons, c, Int.zero_sub]
      have ab3 : (if -a < 0 then - -a else -a) = (a.natAbs : Int) := by split <;> omega
      rw [ab3]
      simp! only [evSs_cons, callD, ioOf, nodupB, passD, blank, putBack, F_L_gcd, hg (a.natAbs : Int) (-b) (by omega) (by omega), Int.natAbs_natCast, Int.natAbs_neg, d2_fdiv g, lowI, frD, c]
    · rw [evSs_cons]; simp! only [c]
      rw [evSs_cons]; simp! only [ab, callD, ioOf, nodupB, passD, blank, putBack, F_L_gcd, hg (a.natAbs : Int) b (by omega) (by omega), Int.natAbs_natCast]
      simp! only [evSs_cons, d2_fdiv g, lowI, frD, c]
/-! ### the stream of the script -/
def b_L_start : Ss := .cons (.ret (.lst (.cons (.cpy (.var 0)) (.cons (.con (.int 0)) (.cons (.con (.int 0)) (.cons (.con (.int 1234577)) (.nil))))))) (.nil)
def n_L_start : Nat := 1
def b_L_pull : Ss := .cons (.ite (.land (.cons (.pk (.op2 .eq (.ix (.var 0) (.con (.int 2))) (.con (.int 0)))) (.cons (.pk (.op2 .lt (.ix (.var 0) (.con (.int 1))) (.fnc .len (.cons (.ix (.var 0) (.con (.int 0))) (.nil))))) (.nil)))) (.cons (.asg (.nm 2) (.pk (.ix (.ix (.var 0) (.con (.int 0))) (.ix (.var 0) (.con (.int 1)))))) (.cons (.sto1 0 (.con (.int 1)) (.pk (.op2 .add (.ix (.var 0) (.con (.int 1))) (.con (.int 1))))) (.cons (.ite (.pk (.op2 .ge (.var 2) (.op2 .pow (.con (.int 10)) (.con (.int 18))))) (.cons (.sto1 0 (.con (.int 2)) (.var 2)) (.nil)) (.cons (.sto1 0 (.con (.int 3)) (.pk (.op2 .mod (.fnc .int (.cons (.op2 .add (.op2 .add (.op2 .mul (.ix (.var 0) (.con (.int 3))) (.con (.int 48271))) (.op2 .mod (.fnc .int (.cons (.var 2) (.nil))) (.con (.int 2147483629)))) (.con (.int 1))) (.nil))) (.con (.int 2147483647))))) (.nil))) (.nil)))) (.nil)) (.cons (.ite (.pk (.op2 .gt (.ix (.var 0) (.con (.int 2))) (.con (.int 0)))) (.cons (.asg (.nm 3) (.pk (.op2 .mod (.fnc .int (.cons (.ix (.var 0) (.con (.int 2))) (.nil))) (.var 1)))) (.cons (.sto1 0 (.con (.int 2)) (.pk (.op2 .fdiv (.ix (.var 0) (.con (.int 2))) (.var 1)))) (.cons (.ret (.var 3)) (.nil)))) (.nil)) (.cons (.sto1 0 (.con (.int 3)) (.pk (.op2 .mod (.fnc .int (.cons (.op2 .add (.op2 .mul (.ix (.var 0) (.con (.int 3))) (.con (.int 69621))) (.con (.int 11))) (.nil))) (.con (.int 2147483647))))) (.cons (.asg (.nm 3) (.pk (.op2 .mod (.fnc .int (.cons (.op2 .add (.op2 .mul (.ix (.var 0) (.con (.int 3))) (.con (.int 40692))) (.op2 .fdiv (.ix (.var 0) (.con (.int 3))) (.con (.int 1009)))) (.nil))) (.con (.int 2147483399))))) (.cons (.ret (.pk (.op2 .mod (.fnc .int (.cons (.op2 .fdiv (.var 3) (.con (.int 16))) (.nil))) (.var 1)))) (.nil)))))
def n_L_pull : Nat := 4
def stD (o : Bool) (cs : List Int) (p q r : Int) : D := .lst true [.lst o (cs.map D.int), .int p, .int q, .int r]
/-- one cell, if one is asked for -/
def intake (cs : List Int) (p q r : Int) : Int × Int × Int := if q = 0 ∧ p < cs.length then
    (match cs[p.toNat]? with
      | some c => if 1000000000000000000 ≤ c then (p + 1, c, r) else (p + 1, q, ((r * 48271 + c.fmod 2147483629 + 1).fmod 2147483647))
      | none => (p, q, r))
  else (p, q, r)
def pullV (many : Int) : Int × Int × Int → Int × (Int × Int × Int)
  | (p, q, r) => if 0 < q then (q.fmod many, (p, q.fdiv many, r)) else
    let r' := (r * 69621 + 11).fmod 2147483647
    (((r' * 40692 + r'.fdiv 1009).fmod 2147483399 |>.fdiv 16).fmod many, (p, q, r'))
def pullF (cs : List Int) (p q r many : Int) : Int × (Int × Int × Int) := pullV many (intake cs p q r)
def m_pull : List D → Option Out
  | [.lst true [.lst o xs, .int p, .int q, .int r], .int many] => match intsOf xs with
    | some cs => if 0 ≤ p ∧ 0 ≤ q ∧ 0 ≤ r ∧ r < 2147483647 ∧ 0 < many then some (.ret (.int (pullF cs p q r many).1) [stD o cs (pullF cs p q r many).2.1 (pullF cs p q r many).2.2.1 (pullF cs p q r many).2.2.2]) else none
    | none => none
  | _ => none
def F_L_pull : Fn := ⟨[true, false], m_pull⟩
theorem intsOf_some : ∀ {xs : List D} {cs : List Int}, intsOf xs = some cs → xs = cs.map D.int
  | [], cs, h => by cases h; rfl
  | d :: ds, cs, h => by
    cases d <;> first | (simp [intsOf] at h; done) | skip
    rename_i i
    simp only [intsOf] at h
    obtain ⟨l, e, rfl⟩ := Option.map_eq_some_iff.mp h
    rw [intsOf_some e]; rfl
theorem pull_one {o : Bool} {cs : List Int} {p q r many : Int} (hp : 0 ≤ p) (hq : 0 ≤ q) (hr : 0 ≤ r) (hr2 : r < 2147483647) : ∃ X, evS 0 [0] (match b_L_pull with
    | .cons s _ => s
    | _ => .pass) [stD o cs p q r, .int many, .un, .un] = some (.nx [stD o cs (intake cs p q r).1 (intake cs p q r).2.1 (intake cs p q r).2.2, .int many, X, .un]) := by
  unfold b_L_pull stD
  have pw : powOk 10 18 = true := by decide
  by_cases hA : q = 0
  · by_cases hB : p < cs.length
    · have hl : p.toNat < cs.length := by omega
      have ec := List.getElem?_eq_getElem hl
      generalize cs[p.toNat] = c at ec
      have ei : intake cs p q r = if 1000000000000000000 ≤ c then (p + 1, c, r) else (p + 1, q, ((r * 48271 + c.fmod 2147483629 + 1).fmod 2147483647)) := by
        unfold intake
        rw [if_pos ⟨hA, hB⟩, ec]
      refine ⟨.int c, ?_⟩
      rw [ei]
      have mm : mulOk r 48271 = true := mul_of 31 16 (by omega) (by decide) (by decide) (by decide)
      by_cases hC : (1000000000000000000 : Int) ≤ c
      · simp! only [hA, hB, at_ints hp ec, d2_pow pw, evSs_cons, hC]
      · simp! only [hA, hB, at_ints hp ec, d2_pow pw, evSs_cons, hC, d2_mul mm]
    · have ei : intake cs p q r = (p, q, r) := if_neg fun z => hB z.2
      refine ⟨.un, ?_⟩
      rw [ei]
      simp! only [hA, hB]
  · have ei : intake cs p q r = (p, q, r) := if_neg fun z => hA z.1
    refine ⟨.un, ?_⟩
    rw [ei]
    simp! only [hA]
theorem intake_ok {cs : List Int} {p q r : Int} (hp : 0 ≤ p) (hq : 0 ≤ q) (hr : 0 ≤ r) (hr2 : r < 2147483647) : 0 ≤ (intake cs p q r).1 ∧ 0 ≤ (intake cs p q r).2.1 ∧ 0 ≤ (intake cs p q r).2.2 ∧ (intake cs p q r).2.2 < 2147483647 := by
  unfold intake
  split
  · split
    · rename_i c _
      split
      · exact ⟨by dsimp only; omega, by dsimp only; omega, hr, hr2⟩
      · refine ⟨by dsimp only; omega, hq, ?_, ?_⟩
        · exact Int.fmod_nonneg_of_pos _ (by decide)
        · exact Int.fmod_lt_of_pos _ (by decide)
    · exact ⟨hp, hq, hr, hr2⟩
  · exact ⟨hp, hq, hr, hr2⟩
theorem hm_L_pull : ∀ ds o, m_pull ds = some o → ∃ n, evFn n [true, false] 4 b_L_pull ds = some o := by
  intro ds o h
  refine ⟨0, ?_⟩
  unfold m_pull at h
  split at h
  case h_2 => cases h
  rename_i o' xs p q r many
  split at h
  case h_2 => cases h
  rename_i cs hcs
  have hx := intsOf_some hcs
  subst hx
  split at h
  case isFalse => cases h
  rename_i hc
  obtain ⟨hp, hq, hr, hr2, hm⟩ := hc
  cases h
  obtain ⟨X, h1⟩ := pull_one (o := o') (cs := cs) (many := many) hp hq hr hr2
  obtain ⟨k1, k2, k3, k4⟩ := intake_ok (cs := cs) hp hq hr hr2
  unfold pullF
  generalize intake cs p q r = t at h1 k1 k2 k3 k4
  obtain ⟨p', q', r'⟩ := t
  dsimp only at h1 k1 k2 k3 k4
  unfold stD at h1
  have hm0 : many ≠ 0 := by omega
  unfold evFn b_L_pull stD
  unfold b_L_pull at h1
  dsimp only at h1
  simp! only []
  rw [evSs_cons, h1]
  have m1 : mulOk r' 69621 = true := mul_of 31 17 (by omega) (by decide) (by decide) (by decide)
  have m2 : mulOk ((r' * 69621 + 11).fmod 2147483647) 40692 = true := mul_of 31 16 (by
    have a1 := Int.fmod_nonneg_of_pos (r' * 69621 + 11) (b := 2147483647) (by decide)
    have a2 := Int.fmod_lt_of_pos (r' * 69621 + 11) (b := 2147483647) (by decide)
    omega) (by decide) (by decide) (by decide)
  by_cases hQ : 0 < q'
  · simp! only [evSs_cons, hQ, d2_mod hm0, d2_fdiv hm0, pullV]
  · simp! only [evSs_cons, hQ, d2_mod hm0, d2_fdiv hm0, pullV, d2_mul m1, d2_mul m2]
/-! ### calls -/
theorem call_io {m : List D → Option Out} {s : Nat} {a d d' v : D} {rs : List D} (h : rs[s]? = some d) (hm : m [d, fz a] = some (.ret v [d'])) (hv : isSc v = true) (ha : isSc a = true) : callD ⟨[true, false], m⟩ [.loc s, .tmp a] rs = some (.ok v (rs.set s d')) := by
  have e : rs.getD s .un = d := by rw [List.getD_eq_getElem?_getD, h]; rfl
  have hf : isFz a = true := isFz_of_sc ha
  have ho : isOwn v = true := isOwn_of_sc hv
  by_cases c : isOwn d' = true
  · simp [callD, ioOf, nodupB, passD, blank, res, h, hm, ho, isOwns, c, putBack]
  · simp [callD, ioOf, nodupB, passD, blank, res, h, hm, ho, isOwns, c, putBack, tmps, isFzs, hf, freezeV]
theorem call_io1 {m : List D → Option Out} {s : Nat} {d d' v : D} {rs : List D} (h : rs[s]? = some d) (hm : m [d] = some (.ret v [d'])) (hv : isOwn v = true) : callD ⟨[true], m⟩ [.loc s] rs = some (.ok v (rs.set s d')) := by
  have e : rs.getD s .un = d := by rw [List.getD_eq_getElem?_getD, h]; rfl
  by_cases c : isOwn d' = true
  · simp [callD, ioOf, nodupB, passD, blank, res, h, hm, hv, isOwns, c, putBack]
  · simp [callD, ioOf, nodupB, passD, blank, res, h, hm, hv, isOwns, c, putBack, tmps, isFzs, freezeV]
/-- the stream -/
def StOk (d : D) : Prop := ∃ o cs p q r, d = stD o cs p q r ∧ 0 ≤ p ∧ 0 ≤ q ∧ 0 ≤ r ∧ r < 2147483647
theorem StOk.un {d : D} (h : StOk d) : isUn d = false := by
  obtain ⟨o, cs, p, q, r, rfl, _⟩ := h
  rfl
theorem fdiv_nonneg' {a b : Int} (ha : 0 ≤ a) (hb : 0 < b) : 0 ≤ a.fdiv b := Int.fdiv_nonneg ha (by omega)
theorem pull_ok {d : D} {many : Int} (h : StOk d) (hm : 0 < many) : ∃ v d', StOk d' ∧ 0 ≤ v ∧ v < many ∧ m_pull [d, .int many] = some (.ret (.int v) [d']) := by
  obtain ⟨o, cs, p, q, r, rfl, hp, hq, hr, hr2⟩ := h
  obtain ⟨k1, k2, k3, k4⟩ := intake_ok (cs := cs) hp hq hr hr2
  refine ⟨(pullF cs p q r many).1, stD o cs (pullF cs p q r many).2.1 (pullF cs p q r many).2.2.1 (pullF cs p q r many).2.2.2, ⟨o, cs, _, _, _, rfl, ?_⟩, ?_⟩
  · unfold pullF
    generalize intake cs p q r = t at k1 k2 k3 k4
    obtain ⟨p', q', r'⟩ := t
    unfold pullV
    dsimp only at k1 k2 k3 k4 ⊢
    split
    · exact ⟨k1, fdiv_nonneg' k2 hm, k3, k4⟩
    · exact ⟨k1, k2, Int.fmod_nonneg_of_pos _ (by decide), Int.fmod_lt_of_pos _ (by decide)⟩
  · have hv : 0 ≤ (pullF cs p q r many).1 ∧ (pullF cs p q r many).1 < many := by
      unfold pullF
      generalize intake cs p q r = t
      obtain ⟨p', q', r'⟩ := t
      unfold pullV
      dsimp only
      split
      · exact ⟨Int.fmod_nonneg_of_pos _ hm, Int.fmod_lt_of_pos _ hm⟩
      · exact ⟨Int.fmod_nonneg_of_pos _ hm, Int.fmod_lt_of_pos _ hm⟩
    refine ⟨hv.1, hv.2, ?_⟩
    unfold stD m_pull
    dsimp only
    rw [intsOf_map]
    dsimp only
    rw [if_pos ⟨hp, hq, hr, hr2, hm⟩]
    rfl
theorem call_pull {d : D} {many : Int} {s : Nat} {rs : List D} (h : StOk d) (hm : 0 < many) (e : rs[s]? = some d) : ∃ v d', StOk d' ∧ 0 ≤ v ∧ v < many ∧ callD F_L_pull [.loc s, .tmp (.int many)] rs = some (.ok (.int v) (rs.set s d')) := by
  obtain ⟨v, d', h1, h2, h3, h4⟩ := pull_ok h hm
  exact ⟨v, d', h1, h2, h3, call_io e h4 rfl rfl⟩
/-! ### a big number -/
def b_L_big : Ss := .cons (.asg (.nm 2) (.con (.int 0))) (.cons (.for_ (.nm 3) (.rng1 (.cons (.con (.int 6)) (.nil))) (.cons (.asg (.nm 2) (.op2 .add (.pk (.op2 .mul (.var 2) (.con (.int 100000007)))) (.call "_law_pull" F_L_pull (.cons (.var 0) (.cons (.con (.int 100000007)) (.nil)))))) (.nil))) (.cons (.ret (.pk (.op2 .mod (.fnc .int (.cons (.var 2) (.nil))) (.var 1)))) (.nil)))
def n_L_big : Nat := 4
def m_big : List D → Option Out := evFn 0 [true, false] 4 b_L_big
def F_L_big : Fn := ⟨[true, false], m_big⟩
theorem big_loop {many : D} : ∀ (l : List Int) (k : Nat) (num : Int) (st x : D), StOk st → 0 ≤ num → num.natAbs < 2 ^ (1 + 28 * k) → k + l.length ≤ 100000 → ∃ num' st' x', StOk st' ∧ 0 ≤ num' ∧
    forL (tgA [0] (.nm 3)) (evSs 0 [0] (.cons (.asg (.nm 2) (.op2 .add (.pk (.op2 .mul (.var 2) (.con (.int 100000007)))) (.call "_law_pull" F_L_pull (.cons (.var 0) (.cons (.con (.int 100000007)) (.nil)))))) (.nil))) (l.map D.int) [st, many, .int num, x] = some (.nx [st', many, .int num', x'])
  | [], k, num, st, x, h, h0, hn, hk => ⟨num, st, x, h, h0, rfl⟩
  | i :: l, k, num, st, x, h, h0, hn, hk => by
    obtain ⟨v, st1, h1, v0, v1, e1⟩ := call_pull (rs := [st, many, .int num, .int i]) (s := 0) h (show (0 : Int) < 100000007 by decide) rfl
    have mm : mulOk num 100000007 = true := mul_of (1 + 28 * k) 27 hn (by decide) (by omega) (by omega)
    have hb : (num * 100000007 + v).natAbs < 2 ^ (1 + 28 * (k + 1)) := by
      have e : 2 ^ (1 + 28 * (k + 1)) = 2 ^ (1 + 28 * k) * 268435456 := by
        rw [show 1 + 28 * (k + 1) = (1 + 28 * k) + 28 by omega, Nat.pow_add]
      omega
    obtain ⟨num', st', x', h2, n0, e2⟩ := big_loop (many := many) l (k + 1) (num * 100000007 + v) st1 (.int i) h1 (by omega) hb (by simp only [List.length_cons] at hk; omega)
    refine ⟨num', st', x', h2, n0, ?_⟩
    rw [← e2]
    simp only [List.map_cons, forL]
    simp! only [evSs_cons, d2_mul mm, e1, h.un]
theorem big_ok {d : D} {many : Int} (h : StOk d) (hm : 0 < many) : ∃ v d', StOk d' ∧ 0 ≤ v ∧ v < many ∧ m_big [d, .int many] = some (.ret (.int v) [d']) := by
  obtain ⟨num', st', x', h2, n0, e2⟩ := big_loop (many := .int many) [0, 1, 2, 3, 4, 5] 0 0 d .un h (by decide) (by decide) (by decide)
  refine ⟨num'.fmod many, st', h2, Int.fmod_nonneg_of_pos _ hm, Int.fmod_lt_of_pos _ hm, ?_⟩
  have hm0 : many ≠ 0 := by omega
  unfold m_big evFn b_L_big
  have er : rngD 0 6 = [0, 1, 2, 3, 4, 5].map D.int := by rfl
  have eb : rngB 6 = true := by decide
  simp! only [evSs_cons, eb]
  rw [er, e2]
  simp! only [evSs_cons, d2_mod hm0]
theorem call_big {d : D} {many : Int} {s : Nat} {rs : List D} (h : StOk d) (hm : 0 < many) (e : rs[s]? = some d) : ∃ v d', StOk d' ∧ 0 ≤ v ∧ v < many ∧ callD F_L_big [.loc s, .tmp (.int many)] rs = some (.ok (.int v) (rs.set s d')) := by
  obtain ⟨v, d', h1, h2, h3, h4⟩ := big_ok h hm
  exact ⟨v, d', h1, h2, h3, call_io e h4 rfl rfl⟩
/-! ### the beginning -/
def m_start : List D → Option Out := evFn 0 [false] 1 b_L_start
def F_L_start : Fn := ⟨[false], m_start⟩
theorem start_ok {cs : List Int} {rs : List D} {s : Nat} (e : rs[s]? = some (.lst false (cs.map D.int))) : ∃ d, StOk d ∧ callD F_L_start [.loc s] rs = some (.ok d rs) := by
  have h1 : isFzs (cs.map D.int) = true := by
    have := isFzs_fzs (cs.map D.int)
    rw [fzs_ints] at this
    exact this
  have h2 : isOwns (cs.map D.int) = true := by
    clear h1 e
    induction cs with
    | nil => rfl
    | cons c cs ih => simp only [List.map_cons, isOwns, isOwn, Bool.true_and]; exact ih
  refine ⟨stD true cs 0 0 1234577, ⟨true, cs, 0, 0, 1234577, rfl, by decide, by decide, by decide, by decide⟩, ?_⟩
  have hm : m_start [.lst false (cs.map D.int)] = some (.ret (stD true cs 0 0 1234577) []) := by
    unfold m_start evFn b_L_start stD
    simp! only [evSs_cons, h1, isFzs, Bool.not_false]
  have ho : isOwn (stD true cs 0 0 1234577) = true := by simp [stD, isOwn, isOwns, h2]
  simp [callD, F_L_start, ioOf, nodupB, passD, blank, res, e, fz, fzs_ints, hm, ho, isOwns, putBack]
/-! ### are two values the same -/
mutual
/-- data that _law_same looks at, at most k deep -/
def plain : Nat → D → Bool
  | 0, _ => false
  | _ + 1, .non => true
  | _ + 1, .bl _ => true
  | _ + 1, .int _ => true
  | _ + 1, .str _ => true
  | k + 1, .tup xs => decide (xs.length ≤ 1000) && plains k xs
  | k + 1, .lst o xs => !o && (decide (xs.length ≤ 1000) && plains k xs)
  | _, _ => false
def plains : Nat → List D → Bool
  | _, [] => true
  | k, d :: ds => plain k d && plains k ds
end
mutual
def eqD : D → D → Bool
  | .un, .un => true
  | .non, .non => true
  | .bl a, .bl b => a == b
  | .int a, .int b => decide (a = b)
  | .str a, .str b => decide (a = b)
  | .tup xs, .tup ys => eqDs xs ys
  | .lst o xs, .lst p ys => (o == p) && eqDs xs ys
  | .obj o C ns xs, .obj p C' ns' ys => (o == p) && (decide (C = C') && (decide (ns = ns') && eqDs xs ys))
  | _, _ => false
def eqDs : List D → List D → Bool
  | [], [] => true
  | x :: xs, y :: ys => eqD x y && eqDs xs ys
  | _, _ => false
end
mutual
theorem eqD_ok : ∀ {a b : D}, eqD a b = true → a = b
  | .un, b, h => by cases b <;> first | rfl | (simp [eqD] at h)
  | .non, b, h => by cases b <;> first | rfl | (simp [eqD] at h)
  | .bl a, b, h => by
    cases b <;> first | (simp [eqD] at h; done) | skip
    simp only [eqD, beq_iff_eq] at h
    rw [h]
  | .int a, b, h => by
    cases b <;> first | (simp [eqD] at h; done) | skip
    simp only [eqD, decide_eq_true_eq] at h
    rw [h]
  | .str a, b, h => by
    cases b <;> first | (simp [eqD] at h; done) | skip
    simp only [eqD, decide_eq_true_eq] at h
    rw [h]
  | .tup xs, b, h => by
    cases b <;> first | (simp [eqD] at h; done) | skip
    simp only [eqD] at h
    rw [eqDs_ok h]
  | .lst o xs, b, h => by
    cases b <;> first | (simp [eqD] at h; done) | skip
    simp only [eqD, Bool.and_eq_true, beq_iff_eq] at h
    rw [h.1, eqDs_ok h.2]
  | .obj o C ns xs, b, h => by
    cases b <;> first | (simp [eqD] at h; done) | skip
    simp only [eqD, Bool.and_eq_true, beq_iff_eq, decide_eq_true_eq] at h
    rw [h.1, h.2.1, h.2.2.1, eqDs_ok h.2.2.2]
theorem eqDs_ok : ∀ {a b : List D}, eqDs a b = true → a = b
  | [], [], _ => rfl
  | x :: xs, y :: ys, h => by
    simp only [eqDs, Bool.and_eq_true] at h
    rw [eqD_ok h.1, eqDs_ok h.2]
  | [], _ :: _, h => by simp [eqDs] at h
  | _ :: _, [], h => by simp [eqDs] at h
end
mutual
theorem eqD_refl : ∀ a : D, eqD a a = true
  | .un => rfl
  | .non => rfl
  | .bl a => by simp [eqD]
  | .int a => by simp [eqD]
  | .str a => by simp [eqD]
  | .tup xs => by simp only [eqD]; exact eqDs_refl xs
  | .lst o xs => by simp only [eqD, beq_self_eq_true, Bool.true_and]; exact eqDs_refl xs
  | .obj o C ns xs => by simp only [eqD, beq_self_eq_true, Bool.true_and, decide_true]; exact eqDs_refl xs
theorem eqDs_refl : ∀ a : List D, eqDs a a = true
  | [] => rfl
  | x :: xs => by simp only [eqDs, eqD_refl x, eqDs_refl xs, Bool.and_self]
end
theorem plain_0 (d : D) : plain 0 d = false := by cases d <;> rfl
/-- what is asked of it: that the same are told to be the same -/
def m_same (k : Nat) : List D → Option Out
  | [t, d] => if eqD t d && plain k d then some (.ret (.bl true) []) else none
  | _ => none
def F_L_same (k : Nat) : Fn := ⟨[false, false], m_same k⟩
def b_L_same (k : Nat) : Ss := .cons (.ite (.pk (.op2 .isn (.var 1) (.con (.non)))) (.cons (.ret (.pk (.op2 .isn (.var 0) (.con (.non))))) (.nil)) (.nil)) (.cons (.ite (.pk (.isi (.var 1) "bool")) (.cons (.ret (.land (.cons (.pk (.isi (.var 0) "bool")) (.cons (.pk (.op2 .eq (.var 0) (.var 1))) (.nil))))) (.nil)) (.nil)) (.cons (.ite (.pk (.isi (.var 1) "int")) (.cons (.ret (.land (.cons (.call "_law_is_int" F_L_is_int (.cons (.var 0) (.nil))) (.cons (.pk (.op2 .eq (.var 0) (.var 1))) (.nil))))) (.nil)) (.nil)) (.cons (.ite (.pk (.isi (.var 1) "str")) (.cons (.ret (.land (.cons (.pk (.isi (.var 0) "str")) (.cons (.pk (.op2 .eq (.var 0) (.var 1))) (.nil))))) (.nil)) (.nil)) (.cons (.ite (.land (.cons (.pk (.isi (.var 1) "list")) (.cons (.lnot (.pk (.isi (.var 0) "list"))) (.nil)))) (.cons (.ret (.con (.bl false))) (.nil)) (.nil)) (.cons (.ite (.land (.cons (.pk (.isi (.var 1) "tuple")) (.cons (.lnot (.pk (.isi (.var 0) "tuple"))) (.nil)))) (.cons (.ret (.con (.bl false))) (.nil)) (.nil)) (.cons (.ite (.pk (.op2 .ne (.fnc .len (.cons (.var 0) (.nil))) (.fnc .len (.cons (.var 1) (.nil))))) (.cons (.ret (.con (.bl false))) (.nil)) (.nil)) (.cons (.for_ (.nm 2) (.rng1 (.cons (.pk (.fnc .len (.cons (.var 1) (.nil)))) (.nil))) (.cons (.ite (.lnot (.call "_law_same" (F_L_same k) (.cons (.ix (.var 0) (.var 2)) (.cons (.ix (.var 1) (.var 2)) (.nil))))) (.cons (.ret (.con (.bl false))) (.nil)) (.nil)) (.nil))) (.cons (.ret (.con (.bl true))) (.nil)))))))))
def n_L_same : Nat := 3
theorem same_of {k : Nat} {d : D} (h : plain k d = true) : m_same k [d, d] = some (.ret (.bl true) []) := by
  simp only [m_same, eqD_refl, h, Bool.and_self, if_true]
mutual
theorem plain_fz : ∀ {k : Nat} (d : D), plain k d = true → isFz d = true
  | 0, d, h => by cases d <;> simp [plain] at h
  | k + 1, .un, h => by simp [plain] at h
  | k + 1, .non, _ => rfl
  | k + 1, .bl _, _ => rfl
  | k + 1, .int _, _ => rfl
  | k + 1, .str _, _ => rfl
  | k + 1, .tup xs, h => by
    simp only [plain, Bool.and_eq_true] at h
    simp only [isFz]
    exact plains_fz xs h.2
  | k + 1, .lst o xs, h => by
    simp only [plain, Bool.and_eq_true] at h
    simp only [isFz, Bool.and_eq_true]
    exact ⟨h.1, plains_fz xs h.2.2⟩
  | k + 1, .obj _ _ _ _, h => by simp [plain] at h
theorem plains_fz : ∀ {k : Nat} (ds : List D), plains k ds = true → isFzs ds = true
  | _, [], _ => rfl
  | k, d :: ds, h => by
    simp only [plains, Bool.and_eq_true] at h
    simp only [isFzs, Bool.and_eq_true]
    exact ⟨plain_fz d h.1, plains_fz ds h.2⟩
end
theorem plains_at : ∀ {k : Nat} {ds : List D} {j : Nat} {c : D}, plains k ds = true → ds[j]? = some c → plain k c = true
  | k, d :: ds, 0, c, h, e => by
    simp only [plains, Bool.and_eq_true] at h
    cases e
    exact h.1
  | k, d :: ds, j + 1, c, h, e => by
    simp only [plains, Bool.and_eq_true] at h
    exact plains_at (j := j) h.2 (by simpa using e)
  | k, [], _, _, _, e => by simp at e
theorem at_nat {xs : List D} {j : Nat} {c : D} (h : xs[j]? = some c) : L2.atI xs (j : Int) = some c := by
  have hl : j < xs.length := (List.getElem?_eq_some_iff.mp h).1
  unfold L2.atI L2.ixN
  rw [if_pos (by omega), if_pos (by omega)]
  exact h
theorem call_v1 {m : List D → Option Out} {v : D} {rs : List D} {A : Arg} (hm : m [res rs A] = some (.ret v [])) (hv : isOwn v = true) : callD ⟨[false], m⟩ [A] rs = some (.ok v rs) := by
  cases A <;> simp [callD, ioOf, nodupB, passD, blank, hm, hv, isOwns, putBack]
theorem call_v2 {m : List D → Option Out} {v : D} {rs : List D} {A B : Arg} (hm : m [res rs A, res rs B] = some (.ret v [])) (hv : isOwn v = true) : callD ⟨[false, false], m⟩ [A, B] rs = some (.ok v rs) := by
  cases A <;> cases B <;> simp [callD, ioOf, nodupB, passD, blank, hm, hv, isOwns, putBack]
theorem call_v3 {m : List D → Option Out} {v : D} {rs : List D} {A B C : Arg} (hm : m [res rs A, res rs B, res rs C] = some (.ret v [])) (hv : isOwn v = true) : callD ⟨[false, false, false], m⟩ [A, B, C] rs = some (.ok v rs) := by
  cases A <;> cases B <;> cases C <;> simp [callD, ioOf, nodupB, passD, blank, hm, hv, isOwns, putBack]
theorem call_v4 {m : List D → Option Out} {v : D} {rs : List D} {A B C E : Arg} (hm : m [res rs A, res rs B, res rs C, res rs E] = some (.ret v [])) (hv : isOwn v = true) : callD ⟨[false, false, false, false], m⟩ [A, B, C, E] rs = some (.ok v rs) := by
  cases A <;> cases B <;> cases C <;> cases E <;> simp [callD, ioOf, nodupB, passD, blank, hm, hv, isOwns, putBack]
theorem plain_un {k : Nat} {d : D} (h : plain k d = true) : isUn d = false := by
  cases d <;> first | rfl | (cases k <;> simp [plain] at h)
theorem sc_of_bl : isOwn (.bl true) = true := rfl
theorem isint_loc (d : D) {rs : List D} (hn : tyName d ≠ none) : callD F_L_is_int [.loc 0] (d :: rs) = some (.ok (.bl (isIntD d)) (d :: rs)) := call_v1 (by
  show m_is_int [fz d] = _
  cases d <;> first | rfl | (exact absurd rfl hn)) rfl
def same_body (k : Nat) : Ss := .cons (.ite (.lnot (.call "_law_same" (F_L_same k) (.cons (.ix (.var 0) (.var 2)) (.cons (.ix (.var 1) (.var 2)) (.nil))))) (.cons (.ret (.con (.bl false))) (.nil)) (.nil)) (.nil)
theorem same_loop {k : Nat} {T : D} {xs : List D} (hT : itemsOf T = some xs) (hu : isUn T = false) (hp : plains k xs = true) : ∀ (l : List Nat) (x : D), (∀ j ∈ l, j < xs.length) → ∃ x', forL (tgA [] (.nm 2)) (evSs 0 [] (same_body k)) (l.map fun j => .int (0 + (j : Nat))) [T, T, x] = some (.nx [T, T, x'])
  | [], x, _ => ⟨x, rfl⟩
  | j :: l, x, h => by
    obtain ⟨x', e⟩ := same_loop hT hu hp l (.int (0 + (j : Nat))) fun i hi => h i (List.mem_cons_of_mem _ hi)
    refine ⟨x', ?_⟩
    rw [← e]
    have ec := List.getElem?_eq_getElem (h j List.mem_cons_self)
    generalize xs[j]'(h j List.mem_cons_self) = c at ec
    have pc := plains_at hp ec
    have hc := plain_fz c pc
    have e0 : (0 : Int) + (j : Nat) = (j : Int) := by omega
    have cl : ∀ rs, callD (F_L_same k) [.tmp c, .tmp c] rs = some (.ok (.bl true) rs) := fun rs => call_v2 (by
      show m_same k [fz c, fz c] = _
      rw [fz_id c hc]
      exact same_of pc) rfl
    simp only [List.map_cons, forL]
    rw [e0]
    unfold same_body
    simp! only [evSs_cons, hu, ixLoc, hT, at_nat ec, hc, cl]
theorem hs_a (k : Nat) : evFn 0 [false, false] 3 (b_L_same k) [.non, .non] = some (.ret (.bl true) []) := by
  unfold evFn b_L_same
  simp! only []
  rw [evSs_cons]; simp! only []
  rw [evSs_cons]; simp! only []
theorem hs_b (k : Nat) (b : Bool) : evFn 0 [false, false] 3 (b_L_same k) [.bl b, .bl b] = some (.ret (.bl true) []) := by
  unfold evFn b_L_same
  simp! only []
  rw [evSs_cons]; simp! only []
  rw [evSs_cons]; simp! only []
  rw [evSs_cons]; simp! only []
theorem hs_i (k : Nat) (i : Int) : evFn 0 [false, false] 3 (b_L_same k) [.int i, .int i] = some (.ret (.bl true) []) := by
  unfold evFn b_L_same
  simp! only []
  rw [evSs_cons]; simp! only []
  rw [evSs_cons]; simp! only []
  rw [evSs_cons]; simp! only [isint_loc (.int i) (by simp [tyName]), isIntD]
  rw [evSs_cons]; simp! only [isint_loc (.int i) (by simp [tyName]), isIntD]
theorem hs_s (k : Nat) (i : Str) : evFn 0 [false, false] 3 (b_L_same k) [.str i, .str i] = some (.ret (.bl true) []) := by
  unfold evFn b_L_same
  simp! only []
  rw [evSs_cons]; simp! only []
  rw [evSs_cons]; simp! only []
  rw [evSs_cons]; simp! only []
  rw [evSs_cons]; simp! only []
  rw [evSs_cons]; simp! only []
theorem d2_nes (i : Int) : d2 .ne (.int i) (.int i) = some (.bl false) := by simp [d2]
theorem q1 (xs : List D) (hz : fzs xs = xs) : evP (.fnc .len (.cons (.var 0) (.nil))) [.tup xs, .tup xs, .un] = some (.int xs.length) := by
  simp only [evP, evPs, ob_s, List.getElem?_cons_zero, un_tup, Bool.false_eq_true, if_false, fz, hz, dF_lenT, sc_int]
theorem q2 (xs : List D) (hz : fzs xs = xs) : evP (.fnc .len (.cons (.var 1) (.nil))) [.tup xs, .tup xs, .un] = some (.int xs.length) := by
  simp only [evP, evPs, ob_s, List.getElem?_cons_zero, List.getElem?_cons_succ, un_tup, Bool.false_eq_true, if_false, fz, hz, dF_lenT, sc_int]
theorem q3 (xs : List D) (hz : fzs xs = xs) : evT (.pk (.op2 .ne (.fnc .len (.cons (.var 0) (.nil))) (.fnc .len (.cons (.var 1) (.nil))))) [.tup xs, .tup xs, .un] = some (.ok false [.tup xs, .tup xs, .un]) := by
  have e : evP (.op2 .ne (.fnc .len (.cons (.var 0) (.nil))) (.fnc .len (.cons (.var 1) (.nil)))) [.tup xs, .tup xs, .un] = some (.bl false) := by
    rw [evP, q1 xs hz, ob_s, q2 xs hz, ob_s, d2_nes]; rfl
  unfold evT
  rw [evE, e]
  rfl
theorem ql1 (xs : List D) (hz : fzs xs = xs) : evP (.fnc .len (.cons (.var 0) (.nil))) [.lst false xs, .lst false xs, .un] = some (.int xs.length) := by
  simp only [evP, evPs, ob_s, List.getElem?_cons_zero, un_lst, Bool.false_eq_true, if_false, fz, hz, dF_lenL, sc_int]
theorem ql2 (xs : List D) (hz : fzs xs = xs) : evP (.fnc .len (.cons (.var 1) (.nil))) [.lst false xs, .lst false xs, .un] = some (.int xs.length) := by
  simp only [evP, evPs, ob_s, List.getElem?_cons_zero, List.getElem?_cons_succ, un_lst, Bool.false_eq_true, if_false, fz, hz, dF_lenL, sc_int]
theorem ql3 (xs : List D) (hz : fzs xs = xs) : evT (.pk (.op2 .ne (.fnc .len (.cons (.var 0) (.nil))) (.fnc .len (.cons (.var 1) (.nil))))) [.lst false xs, .lst false xs, .un] = some (.ok false [.lst false xs, .lst false xs, .un]) := by
  have e : evP (.op2 .ne (.fnc .len (.cons (.var 0) (.nil))) (.fnc .len (.cons (.var 1) (.nil)))) [.lst false xs, .lst false xs, .un] = some (.bl false) := by
    rw [evP, ql1 xs hz, ob_s, ql2 xs hz, ob_s, d2_nes]; rfl
  unfold evT
  rw [evE, e]
  rfl
theorem rngB_len {n : Nat} (h : n ≤ 1000) : rngB (n : Int) = true := by
  rw [rngB_iff]
  omega
theorem hs_t (k : Nat) (xs : List D) (hl : xs.length ≤ 1000) (hp : plains k xs = true) : evFn 0 [false, false] 3 (b_L_same k) [.tup xs, .tup xs] = some (.ret (.bl true) []) := by
  obtain ⟨x', e⟩ := same_loop (k := k) (T := .tup xs) rfl rfl hp (List.range xs.length) .un fun j hj => List.mem_range.mp hj
  have hz := fzs_id xs (plains_fz xs hp)
  have hr := rngB_len hl
  have ht : (xs.length : Int).toNat = xs.length := Int.toNat_natCast _
  unfold evFn b_L_same
  simp! only []
  rw [evSs_cons]; simp! only [hz]
  rw [evSs_cons]; simp! only [hz]
  rw [evSs_cons]; simp! only [hz]
  rw [evSs_cons]; simp! only [hz]
  rw [evSs_cons]; simp! only [hz]
  rw [evSs_cons]; simp! only [hz]
  rw [evSs_cons, evS, q3 xs hz]; simp! only []
  rw [evSs_cons]; simp! only [hz, hr, rngD, ht]
  unfold same_body at e
  rw [e]
  simp! only []
  rw [evSs_cons]; simp! only []
theorem hs_l (k : Nat) (xs : List D) (hl : xs.length ≤ 1000) (hp : plains k xs = true) : evFn 0 [false, false] 3 (b_L_same k) [.lst false xs, .lst false xs] = some (.ret (.bl true) []) := by
  obtain ⟨x', e⟩ := same_loop (k := k) (T := .lst false xs) rfl rfl hp (List.range xs.length) .un fun j hj => List.mem_range.mp hj
  have hz := fzs_id xs (plains_fz xs hp)
  have hr := rngB_len hl
  have ht : (xs.length : Int).toNat = xs.length := Int.toNat_natCast _
  unfold evFn b_L_same
  simp! only []
  rw [evSs_cons]; simp! only [hz]
  rw [evSs_cons]; simp! only [hz]
  rw [evSs_cons]; simp! only [hz]
  rw [evSs_cons]; simp! only [hz]
  rw [evSs_cons]; simp! only [hz]
  rw [evSs_cons]; simp! only [hz]
  rw [evSs_cons, evS, ql3 xs hz]; simp! only []
  rw [evSs_cons]; simp! only [hz, hr, rngD, ht]
  unfold same_body at e
  rw [e]
  simp! only []
  rw [evSs_cons]; simp! only []
theorem hm_L_same (k : Nat) : ∀ ds o, m_same (k + 1) ds = some o → ∃ n, evFn n [false, false] 3 (b_L_same k) ds = some o := by
  intro ds o h
  refine ⟨0, ?_⟩
  match ds, h with
  | [t, d], h =>
    simp only [m_same] at h
    split at h
    case isFalse => cases h
    rename_i hc
    cases h
    obtain ⟨h1, h2⟩ := ands hc
    have e := eqD_ok h1
    subst e
    cases t with
    | un => simp [plain] at h2
    | obj _ _ _ _ => simp [plain] at h2
    | non => exact hs_a k
    | bl b => exact hs_b k b
    | int i => exact hs_i k i
    | str s => exact hs_s k s
    | tup xs =>
      simp only [plain, Bool.and_eq_true, decide_eq_true_eq] at h2
      exact hs_t k xs h2.1 h2.2
    | lst o xs =>
      simp only [plain, Bool.and_eq_true, decide_eq_true_eq, Bool.not_eq_true'] at h2
      obtain ⟨ho, hl, hp⟩ := h2
      subst ho
      exact hs_l k xs hl hp
end Pv

set_option maxHeartbeats 4000000
namespace Pv
local macro_rules
  | `(tactic| simp! only [$ls,*] $[$loc:location]?) => `(tactic| simp -implicitDefEqProofs only [evS, evT, evE, evP, evPs, evV, evA, evAnd, evOr, evI, Pv.a0, Pv.a1, Pv.v0, Pv.v1, opd, slotOf, satOp, Pv.two, Pv.one, ob_s, ob_n, sc_int, sc_bl, sc_str, sc_non, bd_ok, bd_exc, thenE_ok, thenE_exc, thenT_ok, thenT_exc, thenA_ok, thenI_ok, fl_nx, fl_ret, fl_exc, fl_bk, fl_ct, fl_nil, evSs_nil, asBl, asInt, un_non, un_bl, un_int, un_str, un_tup, un_lst, un_obj, un_un, fz, fzs, isSc, isScs, isFz, isFzs, isOwn, isOwns, dNeg, dT, tgA, setAll, okS, res, at2, it_tup, it_lst, chnD, lItems, tmps, cpyLoc, cpyTmp, ixTmp, ioPos, wipeD, out_ret, out_nx, out_exc, outsOf, and_self, and_true, true_and, false_and, and_false, fzs_ints, Pv.sto1, Pv.sto2, ownItems, at2_0, at2_1, at3_0, at3_1, at3_2, at4_0, at4_1, at4_2, at4_3, ix_20, ix_21, ix_40, ix_41, ix_42, ix_43, List.length_map, isFzs, d2_add, d2_sub, d2_lt, d2_le, d2_gt, d2_ge, d2_eq, d2_ne, d2_eqs, d2_eqb, d2_isn_non, d2_isn_int, d2_isn_bl, d2_isn_str, d2_isn_tup, d2_isn_lst, d2_notn_non, d2_notn_int, d2_notn_bl, d2_notn_str, d2_notn_tup, d2_notn_lst, d2_mod, d2_fdiv, Int.reduceToNat, Int.reducePow, Int.reduceEq, Int.reduceLT, Int.reduceLE, Int.reduceNeg, Int.reduceMul, Int.reduceAdd, Int.reduceSub, cst0, cst1, cst2, cst3, cst4, cst5, cst6, cst7, cst8, cst9, cst10, cst11, cst12, go_some, go_nil, sq_nx, sq_ret, sq_exc, sq_bk, sq_ct, lq_nx, lq_ct, lq_bk, lq_ret, lq_exc, lcD_eq, lcR_some, Int.toNat_natCast, ne_eq, not_false_eq_true, not_true_eq_false, dF_gcd, dF_lenL, dF_lenT, dF_int, dF_intb, dF_abs, dF_min, dF_max, dI_ii, dI_ib, dI_is, dI_il, dI_it, dI_bi, dI_bb, dI_bs, dI_bl, dI_bt, dI_si, dI_sb, dI_ss, dI_sl, dI_st, dI_li, dI_lb, dI_ls, dI_ll, dI_lt, dI_ti, dI_tb, dI_ts, dI_tl, dI_tt, dI_ni, dI_nb, dI_ns, dI_nl, dI_nt, Option.map_some, List.length_cons, List.length_nil, List.getElem?_cons_zero, List.getElem?_cons_succ, List.getElem?_nil, List.set_cons_zero, List.set_cons_succ, List.set_nil, List.map_cons, List.map_nil, List.cons_append, List.nil_append, List.append_nil, List.replicate, List.getD_cons_zero, List.getD_cons_succ, List.contains_nil, List.contains_cons, Nat.reduceBEq, Bool.or_false, Bool.false_or, Bool.or_self, Bool.or_true, Bool.true_or, List.isEmpty_nil, List.isEmpty_cons, decide_true, decide_false, if_true, if_false, Bool.false_eq_true, Bool.not_true, Bool.not_false, Bool.and_true, Bool.true_and, Bool.and_self, Bool.and_false, Bool.false_and, reduceIte, Nat.zero_add, Nat.reduceAdd, Nat.reduceSub, Nat.reduceLT, Nat.reduceLeDiff, Nat.reduceEqDiff, decide_eq_true_eq, eq_self, Option.some.injEq, reduceCtorEq, Nat.lt_irrefl, $ls,*] $[$loc]?)
open PySem
/-! ### fractions as they are passed -/
theorem call_io1' {m : List D → Option Out} {s : Nat} {d d' v : D} {rs : List D} (h : rs[s]? = some d) (hm : m [d] = some (.ret v [d'])) : callD ⟨[true], m⟩ [.loc s] rs = some (.ok v (rs.set s d')) := by
  have e : rs.getD s .un = d := by rw [List.getD_eq_getElem?_getD, h]; rfl
  by_cases c : (isOwn v && isOwns [d']) = true
  · simp [callD, ioOf, nodupB, passD, blank, res, h, hm, c, putBack]
  · simp [callD, ioOf, nodupB, passD, blank, res, h, hm, c, putBack, tmps, isFzs, freezeV]
theorem ixLoc_at {s : Nat} {k : Int} {rs xs : List D} {d c : D} (h : rs[s]? = some d) (hx : itemsOf d = some xs) (ha : L2.atI xs k = some c) : ixLoc s (.int k) rs = some (.ok (fz c) (rs.set s (setAt d xs k (fz c)))) := by
  unfold ixLoc
  dsimp only
  rw [h, ob_s, hx, ob_s, ha, ob_s]
  split
  · rename_i hz
    have e : setAt d xs k (fz c) = d := by
      rw [fz_id c hz]
      unfold setAt
      unfold L2.atI at ha
      split
      · rename_i j ej
        rw [ej] at ha
        have : xs.set j c = xs := set_same ha
        rw [this]
        cases d <;> simp_all [itemsOf, withItems]
      · rfl
    rw [e, set_same h, fz_id c hz]
  · rfl
/-- a fraction, as it is passed -/
def isFrD : D → Bool
  | .int _ => true
  | .tup [.int _, .int b] => decide (1 ≤ b)
  | _ => false
/-- what may be asked -/
def frAsk : D → Bool
  | .non => true
  | .bl _ => true
  | .int _ => true
  | .str _ => true
  | .lst false xs => isFzs xs
  | .tup [a, b] => (tyName a).isSome && (tyName b).isSome && isFz a && isFz b
  | .tup xs => decide (xs.length ≠ 2) && isFzs xs
  | _ => false
def m_is_fraction (ds : List D) : Option Out := match ds with
  | [d] => if frAsk d then some (.ret (.bl (isFrD d)) []) else none
  | _ => none
def F_is_fraction : Fn := ⟨[false], m_is_fraction⟩
def b_is_fraction : Ss := .cons (.ite (.call "is_whole" F_is_whole (.cons (.var 0) (.nil))) (.cons (.ret (.con (.bl true))) (.nil)) (.nil)) (.cons (.ite (.lor (.cons (.lnot (.pk (.isi (.var 0) "tuple"))) (.cons (.pk (.op2 .ne (.fnc .len (.cons (.var 0) (.nil))) (.con (.int 2)))) (.nil)))) (.cons (.ret (.con (.bl false))) (.nil)) (.nil)) (.cons (.ret (.land (.cons (.call "is_whole" F_is_whole (.cons (.ix (.var 0) (.con (.int 0))) (.nil))) (.cons (.call "is_whole" F_is_whole (.cons (.ix (.var 0) (.con (.int 1))) (.nil))) (.cons (.pk (.op2 .ge (.ix (.var 0) (.con (.int 1))) (.con (.int 1)))) (.nil)))))) (.nil)))
def n_is_fraction : Nat := 1
theorem frAsk_fz {d : D} (h : frAsk d = true) : isFz d = true := by
  cases d with
  | lst o xs => cases o <;> simp_all [frAsk, isFz]
  | tup xs =>
    match xs, h with
    | [], _ => rfl
    | [a], h => simpa [frAsk, isFz] using h
    | [a, b], h =>
      simp only [frAsk, Bool.and_eq_true] at h
      simp [isFz, isFzs, h.1.2, h.2]
    | a :: b :: c :: l, h => simpa [frAsk, isFz] using h
  | _ => first | rfl | (simp [frAsk] at h)
theorem iswhole_res {A : Arg} {rs : List D} {d : D} (h : res rs A = d) (hn : (tyName d).isSome = true) : callD F_is_whole [A] rs = some (.ok (.bl (isIntD d)) rs) := call_v1 (by
  rw [h]
  show m_is_int [d] = _
  cases d <;> first | rfl | (simp [tyName] at hn)) rfl
theorem d2_nei (i j : Int) (h : i ≠ j) : d2 .ne (.int i) (.int j) = some (.bl true) := by simp [d2, h]
theorem d2_nee (i : Int) : d2 .ne (.int i) (.int i) = some (.bl false) := by simp [d2]
theorem fr_tup {xs : List D} (hz : fzs xs = xs) (h : xs.length ≠ 2) : evFn 0 [false] 1 b_is_fraction [.tup xs] = some (.ret (.bl false) []) := by
  unfold evFn b_is_fraction
  have e1 := iswhole_res (A := .loc 0) (rs := [.tup xs]) (d := .tup xs) (by simp [res, fz, hz]) rfl
  rw [evSs_cons]; simp! only [e1, isIntD, hz]
  have h' : ¬ ((xs.length : Int) = 2) := by omega
  rw [evSs_cons]
  simp! only [hz, h', evSs_cons]
theorem hm_is_fraction : ∀ ds o, m_is_fraction ds = some o → ∃ n, evFn n [false] 1 b_is_fraction ds = some o := by
  intro ds o h
  refine ⟨0, ?_⟩
  match ds, h with
  | [d], h =>
    simp only [m_is_fraction] at h
    split at h
    case isFalse => cases h
    rename_i ha
    cases h
    have hz := fz_id d (frAsk_fz ha)
    cases d with
    | un => simp [frAsk] at ha
    | obj _ _ _ _ => simp [frAsk] at ha
    | tup xs =>
      match xs, ha, hz with
      | [], ha, hz => exact fr_tup rfl (by decide)
      | [a], ha, hz =>
        have e : isFrD (.tup [a]) = false := by cases a <;> rfl
        rw [e]
        exact fr_tup (by simpa [fz] using hz) (by simp)
      | a :: b :: c :: l, ha, hz =>
        have e : isFrD (.tup (a :: b :: c :: l)) = false := by cases a <;> first | rfl | (cases b <;> rfl)
        rw [e]
        exact fr_tup (by simpa [fz] using hz) (by simp)
      | [a, b], ha, hz =>
        simp only [frAsk, Bool.and_eq_true] at ha
        obtain ⟨⟨⟨ha1, ha2⟩, ha3⟩, ha4⟩ := ha
        have e1 := iswhole_res (A := .loc 0) (rs := [.tup [a, b]]) (d := .tup [a, b]) (by simpa [res] using hz) rfl
        have e2 := iswhole_res (A := .tmp a) (rs := [.tup [a, b]]) (d := a) (by simpa [res] using fz_id a ha3) ha1
        have e3 := iswhole_res (A := .tmp b) (rs := [.tup [a, b]]) (d := b) (by simpa [res] using fz_id b ha4) ha2
        have za := fz_id a ha3
        have zb := fz_id b ha4
        unfold evFn b_is_fraction
        rw [evSs_cons]; simp! only [e1, isIntD]
        rw [evSs_cons]; simp! only [za, zb]
        rw [evSs_cons]
        simp! only [e2, e3, ixLoc, ha3, ha4, za, zb]
        cases a <;> first | (simp! only [isIntD, isFrD]; done) | skip
        cases b <;> first | (simp! only [isIntD, isFrD]; done) | skip
        rename_i i j
        by_cases c : (1 : Int) ≤ j <;> simp! only [isIntD, isFrD, c]
    | lst o xs =>
      have e1 := iswhole_res (A := .loc 0) (rs := [.lst o xs]) (d := .lst o xs) (by simpa [res] using hz) rfl
      unfold evFn b_is_fraction
      rw [evSs_cons]; simp! only [e1, isIntD]
      have hz' : fzs xs = xs ∧ o = false := by simp [fz] at hz; exact ⟨hz.2, hz.1⟩
      rw [evSs_cons]; simp! only [hz'.1, isFrD, evSs_cons]
    | non  =>
      have e1 := iswhole_res (A := .loc 0) (rs := [.non]) (d := .non) rfl rfl
      unfold evFn b_is_fraction
      rw [evSs_cons]; simp! only [e1, isIntD, isFrD, evSs_cons]
    | bl b =>
      have e1 := iswhole_res (A := .loc 0) (rs := [(.bl b)]) (d := (.bl b)) rfl rfl
      unfold evFn b_is_fraction
      rw [evSs_cons]; simp! only [e1, isIntD, isFrD, evSs_cons]
    | int b =>
      have e1 := iswhole_res (A := .loc 0) (rs := [(.int b)]) (d := (.int b)) rfl rfl
      unfold evFn b_is_fraction
      rw [evSs_cons]; simp! only [e1, isIntD, isFrD, evSs_cons]
    | str b =>
      have e1 := iswhole_res (A := .loc 0) (rs := [(.str b)]) (d := (.str b)) rfl rfl
      unfold evFn b_is_fraction
      rw [evSs_cons]; simp! only [e1, isIntD, isFrD, evSs_cons]
/-! ### .. in lowest terms, or refused -/
def chkD : D → D
  | .int i => frD (i, 1)
  | .tup [.int a, .int b] => frD (lowI a b)
  | _ => .non
def xFrac (nm : Str) : Exc := ⟨"InvalidFraction", ["name"], [.str nm]⟩
def m_checked (ds : List D) : Option Out := match ds with
  | [d, .str nm] => if frAsk d then some (if isFrD d then .ret (chkD d) [] else .exc (xFrac nm)) else none
  | _ => none
def F_checked : Fn := ⟨[false, false], m_checked⟩
def b_checked : Ss := .cons (.ite (.lnot (.call "is_fraction" F_is_fraction (.cons (.var 0) (.nil)))) (.cons (.raise "InvalidFraction" ["name"] (.cons (.var 1) (.nil))) (.nil)) (.nil)) (.cons (.ite (.pk (.isi (.var 0) "int")) (.cons (.ret (.tup (.cons (.var 0) (.cons (.con (.int 1)) (.nil))))) (.nil)) (.nil)) (.cons (.ret (.call "lowest" F_lowest (.cons (.ix (.var 0) (.con (.int 0))) (.cons (.ix (.var 0) (.con (.int 1))) (.nil))))) (.nil)))
def n_checked : Nat := 2
def b_fraction : Ss := .cons (.ret (.call "checked" F_checked (.cons (.var 0) (.cons (.con (.str "value")) (.nil))))) (.nil)
def n_fraction : Nat := 1
theorem isFrD_inv {d : D} (h : isFrD d = true) : (∃ i, d = .int i) ∨ ∃ a b, d = .tup [.int a, .int b] ∧ 1 ≤ b := by
  unfold isFrD at h
  split at h
  · exact .inl ⟨_, rfl⟩
  · exact .inr ⟨_, _, rfl, by simpa using h⟩
  · cases h
theorem call_fr {d : D} {rs : List D} {A : Arg} (h : res rs A = d) (ha : frAsk d = true) : callD F_is_fraction [A] rs = some (.ok (.bl (isFrD d)) rs) := call_v1 (by
  rw [h]
  show m_is_fraction [d] = _
  simp only [m_is_fraction, ha, if_true]) rfl
theorem call_lowest {a b : Int} {rs : List D} {A B : Arg} (h1 : res rs A = .int a) (h2 : res rs B = .int b) (hb : b ≠ 0) : callD F_lowest [A, B] rs = some (.ok (frD (lowI a b)) rs) := call_v2 (by
  rw [h1, h2]
  show m_low [.int a, .int b] = _
  simp only [m_low, hb, if_false]) rfl
theorem res_loc {rs : List D} {s : Nat} {d : D} (h : rs[s]? = some d) : res rs (.loc s) = fz d := by
  simp only [res, List.getD_eq_getElem?_getD, h, Option.getD_some]
theorem hm_checked : ∀ ds o, m_checked ds = some o → ∃ n, evFn n [false, false] 2 b_checked ds = some o := by
  intro ds o h
  refine ⟨0, ?_⟩
  unfold m_checked at h
  split at h
  case h_2 => cases h
  rename_i d nm
  split at h
  case isFalse => cases h
  rename_i ha
  cases h
  have hz := fz_id d (frAsk_fz ha)
  have e1 := call_fr (rs := [d, .str nm]) (A := .loc 0) (by rw [res_loc rfl, hz]) ha
  have hu : isUn d = false := by cases d <;> first | rfl | (simp [frAsk] at ha)
  unfold evFn b_checked
  by_cases hf : isFrD d = true
  · rw [hf] at e1 ⊢
    rcases isFrD_inv hf with ⟨i, rfl⟩ | ⟨a, b, rfl, hb⟩
    · rw [evSs_cons]; simp! only [e1]
      simp! only [evSs_cons, chkD, frD]
    · rw [evSs_cons]; simp! only [e1]
      rw [evSs_cons]; simp! only []
      rw [evSs_cons]; simp! only [ixLoc, call_lowest (A := .tmp (.int a)) (B := .tmp (.int b)) rfl rfl (show b ≠ 0 by omega), chkD, frD]
  · have hf' : isFrD d = false := by simpa using hf
    rw [hf'] at e1 ⊢
    rw [evSs_cons]; simp! only [e1, hu, evSs_cons, xFrac]
end Pv

set_option maxHeartbeats 4000000
namespace Pv
local macro_rules
  | `(tactic| simp! only [$ls,*] $[$loc:location]?) => `(tactic| simp -implicitDefEqProofs only [evS, evT, evE, evP, evPs, evV, evA, evAnd, evOr, evI, Pv.a0, Pv.a1, Pv.v0, Pv.v1, opd, slotOf, satOp, Pv.two, Pv.one, ob_s, ob_n, sc_int, sc_bl, sc_str, sc_non, bd_ok, bd_exc, thenE_ok, thenE_exc, thenT_ok, thenT_exc, thenA_ok, thenI_ok, fl_nx, fl_ret, fl_exc, fl_bk, fl_ct, fl_nil, evSs_nil, asBl, asInt, un_non, un_bl, un_int, un_str, un_tup, un_lst, un_obj, un_un, fz, fzs, isSc, isScs, isFz, isFzs, isOwn, isOwns, dNeg, dT, tgA, setAll, okS, res, at2, it_tup, it_lst, chnD, lItems, tmps, cpyLoc, cpyTmp, ixTmp, ioPos, wipeD, out_ret, out_nx, out_exc, outsOf, and_self, and_true, true_and, false_and, and_false, fzs_ints, Pv.sto1, Pv.sto2, ownItems, at2_0, at2_1, at3_0, at3_1, at3_2, at4_0, at4_1, at4_2, at4_3, ix_20, ix_21, ix_40, ix_41, ix_42, ix_43, List.length_map, isFzs, d2_add, d2_sub, d2_lt, d2_le, d2_gt, d2_ge, d2_eq, d2_ne, d2_eqs, d2_eqb, d2_isn_non, d2_isn_int, d2_isn_bl, d2_isn_str, d2_isn_tup, d2_isn_lst, d2_notn_non, d2_notn_int, d2_notn_bl, d2_notn_str, d2_notn_tup, d2_notn_lst, d2_mod, d2_fdiv, Int.reduceToNat, Int.reducePow, Int.reduceEq, Int.reduceLT, Int.reduceLE, Int.reduceNeg, Int.reduceMul, Int.reduceAdd, Int.reduceSub, cst0, cst1, cst2, cst3, cst4, cst5, cst6, cst7, cst8, cst9, cst10, cst11, cst12, go_some, go_nil, sq_nx, sq_ret, sq_exc, sq_bk, sq_ct, lq_nx, lq_ct, lq_bk, lq_ret, lq_exc, lcD_eq, lcR_some, Int.toNat_natCast, ne_eq, not_false_eq_true, not_true_eq_false, dF_gcd, dF_lenL, dF_lenT, dF_int, dF_intb, dF_abs, dF_min, dF_max, dI_ii, dI_ib, dI_is, dI_il, dI_it, dI_bi, dI_bb, dI_bs, dI_bl, dI_bt, dI_si, dI_sb, dI_ss, dI_sl, dI_st, dI_li, dI_lb, dI_ls, dI_ll, dI_lt, dI_ti, dI_tb, dI_ts, dI_tl, dI_tt, dI_ni, dI_nb, dI_ns, dI_nl, dI_nt, Option.map_some, List.length_cons, List.length_nil, List.getElem?_cons_zero, List.getElem?_cons_succ, List.getElem?_nil, List.set_cons_zero, List.set_cons_succ, List.set_nil, List.map_cons, List.map_nil, List.cons_append, List.nil_append, List.append_nil, List.replicate, List.getD_cons_zero, List.getD_cons_succ, List.contains_nil, List.contains_cons, Nat.reduceBEq, Bool.or_false, Bool.false_or, Bool.or_self, Bool.or_true, Bool.true_or, List.isEmpty_nil, List.isEmpty_cons, decide_true, decide_false, if_true, if_false, Bool.false_eq_true, Bool.not_true, Bool.not_false, Bool.and_true, Bool.true_and, Bool.and_self, Bool.and_false, Bool.false_and, reduceIte, Nat.zero_add, Nat.reduceAdd, Nat.reduceSub, Nat.reduceLT, Nat.reduceLeDiff, Nat.reduceEqDiff, decide_eq_true_eq, eq_self, Option.some.injEq, reduceCtorEq, Nat.lt_irrefl, $ls,*] $[$loc]?)
open PySem
/-! ### drawn numbers -/
def b_L_integer : Ss := .cons (.ite (.op2 .eq (.call "_law_pull" F_L_pull (.cons (.var 0) (.cons (.con (.int 2)) (.nil)))) (.con (.int 0))) (.cons (.ret (.op2 .sub (.call "_law_pull" F_L_pull (.cons (.var 0) (.cons (.con (.int 41)) (.nil)))) (.con (.int 20)))) (.nil)) (.nil)) (.cons (.ret (.op2 .add (.op2 .sub (.call "_law_big" F_L_big (.cons (.var 0) (.cons (.pk (.op2 .sub (.op2 .mul (.con (.int 2)) (.op2 .pow (.con (.int 10)) (.con (.int 40)))) (.con (.int 1)))) (.nil)))) (.pk (.op2 .pow (.con (.int 10)) (.con (.int 40))))) (.con (.int 1)))) (.nil))
def n_L_integer : Nat := 1
def m_integer : List D → Option Out := evFn 0 [true] 1 b_L_integer
def F_L_integer : Fn := ⟨[true], m_integer⟩
def b_L_number : Ss := .cons (.asg (.nm 1) (.call "_law_integer" F_L_integer (.cons (.var 0) (.nil)))) (.cons (.asg (.nm 2) (.op2 .add (.con (.int 1)) (.op2 .fdiv (.fnc .abs (.cons (.call "_law_integer" F_L_integer (.cons (.var 0) (.nil))) (.nil))) (.con (.int 2))))) (.cons (.asg (.nm 3) (.call "_law_pull" F_L_pull (.cons (.var 0) (.cons (.con (.int 16)) (.nil))))) (.cons (.ite (.pk (.op2 .lt (.var 3) (.con (.int 4)))) (.cons (.ret (.lst (.cons (.var 1) (.cons (.tup (.cons (.var 1) (.cons (.con (.int 1)) (.nil)))) (.nil))))) (.nil)) (.nil)) (.cons (.ite (.pk (.op2 .lt (.var 3) (.con (.int 9)))) (.cons (.ret (.lst (.cons (.tup (.cons (.var 1) (.cons (.var 2) (.nil)))) (.cons (.call "_law_low" F_L_low (.cons (.var 1) (.cons (.var 2) (.nil)))) (.nil))))) (.nil)) (.nil)) (.cons (.asg (.nm 4) (.lst (.cons (.con (.bl true)) (.cons (.tup (.cons (.var 1) (.cons (.con (.int 0)) (.nil)))) (.cons (.tup (.cons (.var 1) (.cons (.pk (.op2 .sub (.con (.int 0)) (.var 2))) (.nil)))) (.cons (.lst (.cons (.var 1) (.cons (.var 2) (.nil)))) (.cons (.tup (.cons (.var 1) (.cons (.var 2) (.cons (.con (.int 1)) (.nil))))) (.cons (.tup (.cons (.con (.bl true)) (.cons (.var 2) (.nil)))) (.cons (.con (.non)) (.nil)))))))))) (.cons (.ret (.lst (.cons (.ix (.var 4) (.pk (.op2 .sub (.var 3) (.con (.int 9))))) (.cons (.con (.non)) (.nil))))) (.nil)))))))
def n_L_number : Nat := 5
def m_number : List D → Option Out := evFn 0 [true] 5 b_L_number
def F_L_number : Fn := ⟨[true], m_number⟩
theorem p40 : (10 : Int) ^ 40 = 10000000000000000000000000000000000000000 := by decide
theorem integer_ok {d : D} (h : StOk d) : ∃ i d', StOk d' ∧ i.natAbs < 2 ^ 134 ∧ m_integer [d] = some (.ret (.int i) [d']) := by
  unfold m_integer evFn b_L_integer
  have pw : powOk 10 40 = true := by decide
  obtain ⟨v, st1, h1, v0, v1, e1⟩ := call_pull (rs := [d]) (s := 0) h (show (0 : Int) < 2 by decide) rfl
  have mm : mulOk 2 10000000000000000000000000000000000000000 = true := by decide
  by_cases c : v = 0
  · obtain ⟨w, st2, h2, w0, w1, e2⟩ := call_pull (rs := [st1]) (s := 0) h1 (show (0 : Int) < 41 by decide) rfl
    refine ⟨w - 20, st2, h2, by omega, ?_⟩
    rw [evSs_cons]; simp! only [h.un, e1, c, h1.un, e2, evSs_cons]
  · obtain ⟨w, st2, h2, w0, w1, e2⟩ := call_big (rs := [st1]) (s := 0) (many := 19999999999999999999999999999999999999999) h1 (by decide) rfl
    refine ⟨w - 10000000000000000000000000000000000000000 + 1, st2, h2, by omega, ?_⟩
    rw [evSs_cons]; simp! only [h.un, e1, c, h1.un, e2, evSs_cons, d2_pow pw, d2_mul mm]
theorem call_integer {d : D} {s : Nat} {rs : List D} (h : StOk d) (e : rs[s]? = some d) : ∃ i d', StOk d' ∧ i.natAbs < 2 ^ 134 ∧ callD F_L_integer [.loc s] rs = some (.ok (.int i) (rs.set s d')) := by
  obtain ⟨i, d', h1, h2, h3⟩ := integer_ok h
  exact ⟨i, d', h1, h2, call_io1' e h3⟩
theorem call_L_low {a b : Int} {rs : List D} {A B : Arg} (h1 : res rs A = .int a) (h2 : res rs B = .int b) (hb : b ≠ 0) : callD F_L_low [A, B] rs = some (.ok (frD (lowI a b)) rs) := call_v2 (by
  rw [h1, h2]
  show m_low [.int a, .int b] = _
  simp only [m_low, hb, if_false]) rfl
/-- a drawn number: what is passed, what is due -/
def NumP (v w : D) : Prop := (isUn v = false ∧ isUn w = false) ∧ (frAsk (fz v) = true ∧ ((w = .non ∧ isFrD (fz v) = false) ∨ (isFrD (fz v) = true ∧ w = chkD (fz v) ∧ ∃ a b, w = frD (lowI a b) ∧ 1 ≤ b ∧ a.natAbs < 2 ^ 134 ∧ b.natAbs < 2 ^ 134)))
theorem low_one (i : Int) : lowI i 1 = (i, 1) := by
  unfold lowI
  rw [if_neg (by decide)]
  simp
theorem number_ok {d : D} (h : StOk d) : ∃ v w d', StOk d' ∧ NumP v w ∧ m_number [d] = some (.ret (.lst true [v, w]) [d']) := by
  unfold m_number evFn b_L_number
  obtain ⟨a, st1, h1, a1, e1⟩ := call_integer (rs := [d, .un, .un, .un, .un]) (s := 0) h rfl
  obtain ⟨b, st2, h2, b1, e2⟩ := call_integer (rs := [st1, .int a, .un, .un, .un]) (s := 0) h1 rfl
  have ab : (if b < 0 then -b else b) = (b.natAbs : Int) := by split <;> omega
  have hq : (b.natAbs : Int).fdiv 2 = (b.natAbs : Int) / 2 := Int.fdiv_eq_ediv_of_nonneg _ (by decide)
  have hb : ∃ c : Int, c = 1 + (b.natAbs : Int) / 2 ∧ 1 ≤ c ∧ c.natAbs < 2 ^ 134 := ⟨_, rfl, by omega, by omega⟩
  obtain ⟨c, ec, c1, c2⟩ := hb
  obtain ⟨t, st3, h3, t0, t1, e3⟩ := call_pull (rs := [st2, .int a, .int c, .un, .un]) (s := 0) h2 (show (0 : Int) < 16 by decide) rfl
  have c0 : c ≠ 0 := by omega
  have d2c : d2 .fdiv (.int (b.natAbs : Int)) (.int 2) = some (.int ((b.natAbs : Int) / 2)) := by rw [d2_fdiv (by decide), hq]
  by_cases k1 : t < 4
  · refine ⟨.int a, frD (lowI a 1), st3, h3, ⟨⟨rfl, rfl⟩, rfl, .inr ⟨rfl, by rw [low_one]; rfl, a, 1, rfl, by decide, a1, by decide⟩⟩, ?_⟩
    rw [evSs_cons]; simp! only [h.un, e1]
    rw [evSs_cons]; simp! only [h1.un, e2, ab, d2c, ← ec]
    rw [evSs_cons]; simp! only [h2.un, e3]
    rw [evSs_cons]; simp! only [k1, evSs_cons, frD, low_one]
  by_cases k2 : t < 9
  · have el := call_L_low (rs := [st3, .int a, .int c, .int t, .un]) (A := .loc 1) (B := .loc 2) (a := a) (b := c) rfl rfl c0
    refine ⟨.tup [.int a, .int c], frD (lowI a c), st3, h3, ⟨⟨rfl, rfl⟩, ?_, .inr ⟨?_, rfl, a, c, rfl, c1, a1, c2⟩⟩, ?_⟩
    · rfl
    · simp [fz, fzs, isFrD, c1]
    rw [evSs_cons]; simp! only [h.un, e1]
    rw [evSs_cons]; simp! only [h1.un, e2, ab, d2c, ← ec]
    rw [evSs_cons]; simp! only [h2.un, e3]
    rw [evSs_cons]; simp! only [k1]
    rw [evSs_cons]; simp! only [k2, evSs_cons, el, frD]
  have hc : ∃ j : Nat, t = 9 + (j : Int) ∧ j < 7 := ⟨(t - 9).toNat, by omega, by omega⟩
  obtain ⟨j, rfl, hj⟩ := hc
  have key : ∀ v : D, isUn v = false → frAsk (fz v) = true → isFrD (fz v) = false → L2.atI [.bl true, .tup [.int a, .int 0], .tup [.int a, .int (-c)], .lst true [.int a, .int c], .tup [.int a, .int c, .int 1], .tup [.bl true, .int c], .non] (j : Int) = some v →
      ∃ v w d', StOk d' ∧ NumP v w ∧ ob (evSs 0 (ioPos 0 [true]) b_L_number ([d] ++ List.replicate (5 - [d].length) .un)) (outFl [true]) = some (.ret (.lst true [v, w]) [d']) := by
    intro v hu ha hf hv
    refine ⟨fz v, .non, st3, h3, ⟨⟨by cases v <;> first | rfl | (cases hu), rfl⟩, by rw [fz_fz]; exact ha, .inl ⟨rfl, by rw [fz_fz]; exact hf⟩⟩, ?_⟩
    unfold b_L_number
    rw [evSs_cons]; simp! only [h.un, e1]
    rw [evSs_cons]; simp! only [h1.un, e2, ab, d2c, ← ec]
    rw [evSs_cons]; simp! only [h2.un, e3]
    rw [evSs_cons]; simp! only [k1]
    rw [evSs_cons]; simp! only [k2]
    rw [evSs_cons]; simp! only [Int.zero_sub]
    have ej : (9 : Int) + (j : Int) - 9 = (j : Int) := by omega
    rw [evSs_cons]; simp! only [ixLoc, ej, hv]
    by_cases z : isFz v = true
    · rw [fz_id v z]; simp! only [z]
    · simp! only [z]
  have cm : 1 ≤ c := c1
  unfold b_L_number at key
  match j, hj, key with
  | 0, _, key => exact key _ rfl rfl rfl rfl
  | 1, _, key => exact key _ rfl rfl (by simp [fz, fzs, isFrD]) rfl
  | 2, _, key => exact key _ rfl rfl (by simp [fz, fzs, isFrD]; omega) rfl
  | 3, _, key => exact key _ rfl rfl rfl rfl
  | 4, _, key => exact key _ rfl rfl rfl rfl
  | 5, _, key => exact key _ rfl rfl rfl rfl
  | 6, _, key => exact key _ rfl rfl rfl rfl
theorem call_number {d : D} {s : Nat} {rs : List D} (h : StOk d) (e : rs[s]? = some d) : ∃ v w d', StOk d' ∧ NumP v w ∧ callD F_L_number [.loc s] rs = some (.ok (.lst true [v, w]) (rs.set s d')) := by
  obtain ⟨i, w, d', h1, h2, h3⟩ := number_ok h
  exact ⟨i, w, d', h1, h2, call_io1' e h3⟩
end Pv

set_option maxHeartbeats 4000000
namespace Pv
local macro_rules
  | `(tactic| simp! only [$ls,*] $[$loc:location]?) => `(tactic| simp -implicitDefEqProofs only [evS, evT, evE, evP, evPs, evV, evA, evAnd, evOr, evI, Pv.a0, Pv.a1, Pv.v0, Pv.v1, opd, slotOf, satOp, Pv.two, Pv.one, ob_s, ob_n, sc_int, sc_bl, sc_str, sc_non, bd_ok, bd_exc, thenE_ok, thenE_exc, thenT_ok, thenT_exc, thenA_ok, thenI_ok, fl_nx, fl_ret, fl_exc, fl_bk, fl_ct, fl_nil, evSs_nil, asBl, asInt, un_non, un_bl, un_int, un_str, un_tup, un_lst, un_obj, un_un, fz, fzs, isSc, isScs, isFz, isFzs, isOwn, isOwns, dNeg, dT, tgA, setAll, okS, res, at2, it_tup, it_lst, chnD, lItems, tmps, cpyLoc, cpyTmp, ixTmp, ioPos, wipeD, out_ret, out_nx, out_exc, outsOf, and_self, and_true, true_and, false_and, and_false, fzs_ints, Pv.sto1, Pv.sto2, ownItems, at2_0, at2_1, at3_0, at3_1, at3_2, at4_0, at4_1, at4_2, at4_3, ix_20, ix_21, ix_40, ix_41, ix_42, ix_43, List.length_map, isFzs, d2_add, d2_sub, d2_lt, d2_le, d2_gt, d2_ge, d2_eq, d2_ne, d2_eqs, d2_eqb, d2_isn_non, d2_isn_int, d2_isn_bl, d2_isn_str, d2_isn_tup, d2_isn_lst, d2_notn_non, d2_notn_int, d2_notn_bl, d2_notn_str, d2_notn_tup, d2_notn_lst, d2_mod, d2_fdiv, Int.reduceToNat, Int.reducePow, Int.reduceEq, Int.reduceLT, Int.reduceLE, Int.reduceNeg, Int.reduceMul, Int.reduceAdd, Int.reduceSub, cst0, cst1, cst2, cst3, cst4, cst5, cst6, cst7, cst8, cst9, cst10, cst11, cst12, go_some, go_nil, sq_nx, sq_ret, sq_exc, sq_bk, sq_ct, lq_nx, lq_ct, lq_bk, lq_ret, lq_exc, lcD_eq, lcR_some, Int.toNat_natCast, ne_eq, not_false_eq_true, not_true_eq_false, dF_gcd, dF_lenL, dF_lenT, dF_int, dF_intb, dF_abs, dF_min, dF_max, dI_ii, dI_ib, dI_is, dI_il, dI_it, dI_bi, dI_bb, dI_bs, dI_bl, dI_bt, dI_si, dI_sb, dI_ss, dI_sl, dI_st, dI_li, dI_lb, dI_ls, dI_ll, dI_lt, dI_ti, dI_tb, dI_ts, dI_tl, dI_tt, dI_ni, dI_nb, dI_ns, dI_nl, dI_nt, Option.map_some, List.length_cons, List.length_nil, List.getElem?_cons_zero, List.getElem?_cons_succ, List.getElem?_nil, List.set_cons_zero, List.set_cons_succ, List.set_nil, List.map_cons, List.map_nil, List.cons_append, List.nil_append, List.append_nil, List.replicate, List.getD_cons_zero, List.getD_cons_succ, List.contains_nil, List.contains_cons, Nat.reduceBEq, Bool.or_false, Bool.false_or, Bool.or_self, Bool.or_true, Bool.true_or, List.isEmpty_nil, List.isEmpty_cons, decide_true, decide_false, if_true, if_false, Bool.false_eq_true, Bool.not_true, Bool.not_false, Bool.and_true, Bool.true_and, Bool.and_self, Bool.and_false, Bool.false_and, reduceIte, Nat.zero_add, Nat.reduceAdd, Nat.reduceSub, Nat.reduceLT, Nat.reduceLeDiff, Nat.reduceEqDiff, decide_eq_true_eq, eq_self, Option.some.injEq, reduceCtorEq, Nat.lt_irrefl, $ls,*] $[$loc]?)
open PySem
/-! ### sums, products -/
def okF (a b c d : Int) : Bool := mulOk a d && (mulOk c b && (mulOk b d && decide (b * d ≠ 0)))
def m_plus : List D → Option Out
  | [.tup [.int a, .int b], .tup [.int c, .int d]] => if okF a b c d then some (.ret (frD (lowI (a * d + c * b) (b * d))) []) else none
  | _ => none
def m_minus : List D → Option Out
  | [.tup [.int a, .int b], .tup [.int c, .int d]] => if okF a b c d then some (.ret (frD (lowI (a * d - c * b) (b * d))) []) else none
  | _ => none
def m_times : List D → Option Out
  | [.tup [.int a, .int b], .tup [.int c, .int d]] => if mulOk a c && (mulOk b d && decide (b * d ≠ 0)) then some (.ret (frD (lowI (a * c) (b * d))) []) else none
  | _ => none
def m_less : List D → Option Out
  | [.tup [.int a, .int b], .tup [.int c, .int d]] => if mulOk a d && mulOk c b then some (.ret (.bl (decide (a * d < c * b))) []) else none
  | _ => none
def F_plus : Fn := ⟨[false, false], m_plus⟩
def F_minus : Fn := ⟨[false, false], m_minus⟩
def F_times : Fn := ⟨[false, false], m_times⟩
def F_less : Fn := ⟨[false, false], m_less⟩
def F_L_plus : Fn := ⟨[false, false], m_plus⟩
def F_L_minus : Fn := ⟨[false, false], m_minus⟩
def F_L_times : Fn := ⟨[false, false], m_times⟩
def b_plus : Ss := .cons (.ret (.call "lowest" F_lowest (.cons (.pk (.op2 .add (.op2 .mul (.ix (.var 0) (.con (.int 0))) (.ix (.var 1) (.con (.int 1)))) (.op2 .mul (.ix (.var 1) (.con (.int 0))) (.ix (.var 0) (.con (.int 1)))))) (.cons (.pk (.op2 .mul (.ix (.var 0) (.con (.int 1))) (.ix (.var 1) (.con (.int 1))))) (.nil))))) (.nil)
def n_plus : Nat := 2
def b_minus : Ss := .cons (.ret (.call "lowest" F_lowest (.cons (.pk (.op2 .sub (.op2 .mul (.ix (.var 0) (.con (.int 0))) (.ix (.var 1) (.con (.int 1)))) (.op2 .mul (.ix (.var 1) (.con (.int 0))) (.ix (.var 0) (.con (.int 1)))))) (.cons (.pk (.op2 .mul (.ix (.var 0) (.con (.int 1))) (.ix (.var 1) (.con (.int 1))))) (.nil))))) (.nil)
def n_minus : Nat := 2
def b_times : Ss := .cons (.ret (.call "lowest" F_lowest (.cons (.pk (.op2 .mul (.ix (.var 0) (.con (.int 0))) (.ix (.var 1) (.con (.int 0))))) (.cons (.pk (.op2 .mul (.ix (.var 0) (.con (.int 1))) (.ix (.var 1) (.con (.int 1))))) (.nil))))) (.nil)
def n_times : Nat := 2
def b_less : Ss := .cons (.ret (.pk (.op2 .lt (.op2 .mul (.ix (.var 0) (.con (.int 0))) (.ix (.var 1) (.con (.int 1)))) (.op2 .mul (.ix (.var 1) (.con (.int 0))) (.ix (.var 0) (.con (.int 1))))))) (.nil)
def n_less : Nat := 2
def b_L_plus : Ss := .cons (.ret (.call "_law_low" F_L_low (.cons (.pk (.op2 .add (.op2 .mul (.ix (.var 0) (.con (.int 0))) (.ix (.var 1) (.con (.int 1)))) (.op2 .mul (.ix (.var 1) (.con (.int 0))) (.ix (.var 0) (.con (.int 1)))))) (.cons (.pk (.op2 .mul (.ix (.var 0) (.con (.int 1))) (.ix (.var 1) (.con (.int 1))))) (.nil))))) (.nil)
def n_L_plus : Nat := 2
def b_L_minus : Ss := .cons (.ret (.call "_law_low" F_L_low (.cons (.pk (.op2 .sub (.op2 .mul (.ix (.var 0) (.con (.int 0))) (.ix (.var 1) (.con (.int 1)))) (.op2 .mul (.ix (.var 1) (.con (.int 0))) (.ix (.var 0) (.con (.int 1)))))) (.cons (.pk (.op2 .mul (.ix (.var 0) (.con (.int 1))) (.ix (.var 1) (.con (.int 1))))) (.nil))))) (.nil)
def n_L_minus : Nat := 2
def b_L_times : Ss := .cons (.ret (.call "_law_low" F_L_low (.cons (.pk (.op2 .mul (.ix (.var 0) (.con (.int 0))) (.ix (.var 1) (.con (.int 0))))) (.cons (.pk (.op2 .mul (.ix (.var 0) (.con (.int 1))) (.ix (.var 1) (.con (.int 1))))) (.nil))))) (.nil)
def n_L_times : Nat := 2
theorem hm_plus : ∀ ds o, m_plus ds = some o → ∃ n, evFn n [false, false] 2 b_plus ds = some o := by
  intro ds o h
  refine ⟨0, ?_⟩
  unfold m_plus at h
  split at h
  case h_2 => cases h
  rename_i a b c d
  split at h
  case isFalse => cases h
  rename_i hc
  cases h
  simp only [okF, Bool.and_eq_true, decide_eq_true_eq] at hc
  obtain ⟨h1, h2, h3, h4⟩ := hc
  unfold evFn b_plus
  simp! only [evSs_cons, d2_mul h1, d2_mul h2, d2_mul h3, call_lowest (A := .tmp (.int (a * d + c * b))) (B := .tmp (.int (b * d))) rfl rfl h4, frD]
theorem hm_minus : ∀ ds o, m_minus ds = some o → ∃ n, evFn n [false, false] 2 b_minus ds = some o := by
  intro ds o h
  refine ⟨0, ?_⟩
  unfold m_minus at h
  split at h
  case h_2 => cases h
  rename_i a b c d
  split at h
  case isFalse => cases h
  rename_i hc
  cases h
  simp only [okF, Bool.and_eq_true, decide_eq_true_eq] at hc
  obtain ⟨h1, h2, h3, h4⟩ := hc
  unfold evFn b_minus
  simp! only [evSs_cons, d2_mul h1, d2_mul h2, d2_mul h3, call_lowest (A := .tmp (.int (a * d - c * b))) (B := .tmp (.int (b * d))) rfl rfl h4, frD]
theorem hm_times : ∀ ds o, m_times ds = some o → ∃ n, evFn n [false, false] 2 b_times ds = some o := by
  intro ds o h
  refine ⟨0, ?_⟩
  unfold m_times at h
  split at h
  case h_2 => cases h
  rename_i a b c d
  split at h
  case isFalse => cases h
  rename_i hc
  cases h
  simp only [Bool.and_eq_true, decide_eq_true_eq] at hc
  obtain ⟨h1, h2, h4⟩ := hc
  unfold evFn b_times
  simp! only [evSs_cons, d2_mul h1, d2_mul h2, call_lowest (A := .tmp (.int (a * c))) (B := .tmp (.int (b * d))) rfl rfl h4, frD]
theorem hm_less : ∀ ds o, m_less ds = some o → ∃ n, evFn n [false, false] 2 b_less ds = some o := by
  intro ds o h
  refine ⟨0, ?_⟩
  unfold m_less at h
  split at h
  case h_2 => cases h
  rename_i a b c d
  split at h
  case isFalse => cases h
  rename_i hc
  cases h
  simp only [Bool.and_eq_true] at hc
  obtain ⟨h1, h2⟩ := hc
  unfold evFn b_less
  simp! only [evSs_cons, d2_mul h1, d2_mul h2]
theorem hm_L_plus : ∀ ds o, m_plus ds = some o → ∃ n, evFn n [false, false] 2 b_L_plus ds = some o := by
  intro ds o h
  refine ⟨0, ?_⟩
  unfold m_plus at h
  split at h
  case h_2 => cases h
  rename_i a b c d
  split at h
  case isFalse => cases h
  rename_i hc
  cases h
  simp only [okF, Bool.and_eq_true, decide_eq_true_eq] at hc
  obtain ⟨h1, h2, h3, h4⟩ := hc
  unfold evFn b_L_plus
  simp! only [evSs_cons, d2_mul h1, d2_mul h2, d2_mul h3, call_L_low (A := .tmp (.int (a * d + c * b))) (B := .tmp (.int (b * d))) rfl rfl h4, frD]
theorem hm_L_minus : ∀ ds o, m_minus ds = some o → ∃ n, evFn n [false, false] 2 b_L_minus ds = some o := by
  intro ds o h
  refine ⟨0, ?_⟩
  unfold m_minus at h
  split at h
  case h_2 => cases h
  rename_i a b c d
  split at h
  case isFalse => cases h
  rename_i hc
  cases h
  simp only [okF, Bool.and_eq_true, decide_eq_true_eq] at hc
  obtain ⟨h1, h2, h3, h4⟩ := hc
  unfold evFn b_L_minus
  simp! only [evSs_cons, d2_mul h1, d2_mul h2, d2_mul h3, call_L_low (A := .tmp (.int (a * d - c * b))) (B := .tmp (.int (b * d))) rfl rfl h4, frD]
theorem hm_L_times : ∀ ds o, m_times ds = some o → ∃ n, evFn n [false, false] 2 b_L_times ds = some o := by
  intro ds o h
  refine ⟨0, ?_⟩
  unfold m_times at h
  split at h
  case h_2 => cases h
  rename_i a b c d
  split at h
  case isFalse => cases h
  rename_i hc
  cases h
  simp only [Bool.and_eq_true, decide_eq_true_eq] at hc
  obtain ⟨h1, h2, h4⟩ := hc
  unfold evFn b_L_times
  simp! only [evSs_cons, d2_mul h1, d2_mul h2, call_L_low (A := .tmp (.int (a * c))) (B := .tmp (.int (b * d))) rfl rfl h4, frD]
/-! ### bounds -/
/-- a fraction with less than n bits above and below -/
def FB (n : Nat) (p : Int × Int) : Prop := p.1.natAbs < 2 ^ n ∧ 1 ≤ p.2 ∧ p.2.natAbs < 2 ^ n
theorem lowI_pos {a b : Int} (hb : 1 ≤ b) : lowI a b = (a / (Nat.gcd a.natAbs b.natAbs : Nat), b / (Nat.gcd a.natAbs b.natAbs : Nat)) := by
  unfold lowI
  rw [if_neg (by omega), Int.fdiv_eq_ediv_of_nonneg _ (by omega), Int.fdiv_eq_ediv_of_nonneg _ (by omega)]
theorem lowI_fb {n : Nat} {a b : Int} (ha : a.natAbs < 2 ^ n) (hb : 1 ≤ b) (hb2 : b.natAbs < 2 ^ n) : FB n (lowI a b) := by
  rw [lowI_pos hb]
  refine ⟨Nat.lt_of_le_of_lt (Int.natAbs_ediv_le_natAbs _ _) ha, ?_, Nat.lt_of_le_of_lt (Int.natAbs_ediv_le_natAbs _ _) hb2⟩
  show 1 ≤ b / _
  have h1 : ((Nat.gcd a.natAbs b.natAbs : Nat) : Int) ∣ b := Int.ofNat_dvd_left.mpr (Nat.gcd_dvd_right _ _)
  have h2 : 0 < ((Nat.gcd a.natAbs b.natAbs : Nat) : Int) := Int.ofNat_lt.mpr (Nat.gcd_pos_of_pos_right _ (by omega))
  exact Int.le_ediv_of_mul_le h2 (by rw [Int.one_mul]; exact Int.le_of_dvd (by omega) h1)
theorem mul_n {n : Nat} {a b : Int} (hn : 0 < n) (hn2 : n ≤ 1000000) (ha : a.natAbs < 2 ^ n) (hb : b.natAbs < 2 ^ n) : mulOk a b = true := mul_of n n ha hb (by omega) hn
theorem okF_of {n : Nat} {p q : Int × Int} (hn : 0 < n) (hn2 : n ≤ 1000000) (hp : FB n p) (hq : FB n q) : okF p.1 p.2 q.1 q.2 = true := by
  have h : p.2 * q.2 ≠ 0 := Int.mul_ne_zero (by have := hp.2.1; omega) (by have := hq.2.1; omega)
  simp only [okF, mul_n hn hn2 hp.1 hq.2.2, mul_n hn hn2 hq.1 hp.2.2, mul_n hn hn2 hp.2.2 hq.2.2, h, Bool.true_and, decide_not, decide_false, Bool.not_false]
theorem plus_eq {n : Nat} {p q : Int × Int} (hn : 0 < n) (hn2 : n ≤ 1000000) (hp : FB n p) (hq : FB n q) : m_plus [frD p, frD q] = some (.ret (frD (lowI (p.1 * q.2 + q.1 * p.2) (p.2 * q.2))) []) := by
  simp only [m_plus, frD, okF_of hn hn2 hp hq, if_true]
theorem minus_eq {n : Nat} {p q : Int × Int} (hn : 0 < n) (hn2 : n ≤ 1000000) (hp : FB n p) (hq : FB n q) : m_minus [frD p, frD q] = some (.ret (frD (lowI (p.1 * q.2 - q.1 * p.2) (p.2 * q.2))) []) := by
  simp only [m_minus, frD, okF_of hn hn2 hp hq, if_true]
theorem times_eq {n : Nat} {p q : Int × Int} (hn : 0 < n) (hn2 : n ≤ 1000000) (hp : FB n p) (hq : FB n q) : m_times [frD p, frD q] = some (.ret (frD (lowI (p.1 * q.1) (p.2 * q.2))) []) := by
  have h : p.2 * q.2 ≠ 0 := Int.mul_ne_zero (by have := hp.2.1; omega) (by have := hq.2.1; omega)
  simp only [m_times, frD, mul_n hn hn2 hp.1 hq.1, mul_n hn hn2 hp.2.2 hq.2.2, h, if_true, Bool.true_and, decide_not, decide_false, Bool.not_false]
theorem less_eq {n : Nat} {p q : Int × Int} (hn : 0 < n) (hn2 : n ≤ 1000000) (hp : FB n p) (hq : FB n q) : m_less [frD p, frD q] = some (.ret (.bl (decide (p.1 * q.2 < q.1 * p.2))) []) := by
  simp only [m_less, frD, mul_n hn hn2 hp.1 hq.2.2, mul_n hn hn2 hq.1 hp.2.2, if_true, Bool.and_self]
end Pv

set_option maxHeartbeats 4000000
namespace Pv
open PySem
/-! ### fractions in lowest terms: the plain law -/
theorem low_spec {a b : Int} (hb : 1 ≤ b) : ∃ g : Int, 1 ≤ g ∧ a = g * (lowI a b).1 ∧ b = g * (lowI a b).2 ∧ 1 ≤ (lowI a b).2 ∧ Nat.Coprime (lowI a b).1.natAbs (lowI a b).2.natAbs := by
  rw [lowI_pos hb]
  have h0 : 0 < Nat.gcd a.natAbs b.natAbs := Nat.gcd_pos_of_pos_right _ (by omega)
  have h1 : ((Nat.gcd a.natAbs b.natAbs : Nat) : Int) ∣ b := Int.ofNat_dvd_left.mpr (Nat.gcd_dvd_right _ _)
  have h2 : ((Nat.gcd a.natAbs b.natAbs : Nat) : Int) ∣ a := Int.ofNat_dvd_left.mpr (Nat.gcd_dvd_left _ _)
  have hg : (1 : Int) ≤ (Nat.gcd a.natAbs b.natAbs : Nat) := by omega
  refine ⟨(Nat.gcd a.natAbs b.natAbs : Nat), hg, (Int.mul_ediv_cancel' h2).symm, (Int.mul_ediv_cancel' h1).symm, ?_, ?_⟩
  · exact Int.le_ediv_of_mul_le (by omega) (by rw [Int.one_mul]; exact Int.le_of_dvd (by omega) h1)
  · exact Int.gcd_ediv_gcd_ediv_gcd (i := a) (j := b) h0
theorem low_uniq {a b c d : Int} (hb : 1 ≤ b) (hd : 1 ≤ d) (h1 : Nat.Coprime a.natAbs b.natAbs) (h2 : Nat.Coprime c.natAbs d.natAbs) (h : a * d = c * b) : a = c ∧ b = d := by
  have hn : a.natAbs * d.natAbs = c.natAbs * b.natAbs := by rw [← Int.natAbs_mul, h, Int.natAbs_mul]
  have e1 : b.natAbs ∣ d.natAbs := (Nat.Coprime.symm h1).dvd_of_dvd_mul_left (hn ▸ Nat.dvd_mul_left _ _)
  have e2 : d.natAbs ∣ b.natAbs := (Nat.Coprime.symm h2).dvd_of_dvd_mul_left (hn ▸ Nat.dvd_mul_left _ _)
  have e3 := Nat.dvd_antisymm e1 e2
  have e4 : b = d := by omega
  subst e4
  exact ⟨Int.eq_of_mul_eq_mul_right (by omega) h, rfl⟩
theorem lowI_eq {a b c d : Int} (hb : 1 ≤ b) (hd : 1 ≤ d) (h : a * d = c * b) : lowI a b = lowI c d := by
  obtain ⟨g, hg, ea, eb, p1, c1⟩ := low_spec (a := a) hb
  obtain ⟨k, hk, ec, ed, p2, c2⟩ := low_spec (a := c) hd
  generalize lowI a b = x at *
  generalize lowI c d = y at *
  have key : x.1 * y.2 = y.1 * x.2 := by
    have e : (g * k) * (x.1 * y.2) = (g * k) * (y.1 * x.2) := by
      calc (g * k) * (x.1 * y.2) = (g * x.1) * (k * y.2) := by ac_rfl
        _ = (k * y.1) * (g * x.2) := by rw [← ea, ← ed, ← ec, ← eb]; exact h
        _ = (g * k) * (y.1 * x.2) := by ac_rfl
    have ne : g * k ≠ 0 := Int.mul_ne_zero (by omega) (by omega)
    exact Int.eq_of_mul_eq_mul_left ne e
  obtain ⟨e1, e2⟩ := low_uniq p1 p2 c1 c2 key
  exact Prod.ext e1 e2
theorem lowI_cross {a b : Int} (hb : 1 ≤ b) : (lowI a b).1 * b = a * (lowI a b).2 := by
  obtain ⟨g, hg, ea, eb, p1, c1⟩ := low_spec (a := a) hb
  generalize lowI a b = x at *
  rw [eb, ea]
  ac_rfl
theorem lowI_self {p : Int × Int} (hp : 1 ≤ p.2) (hc : Nat.Coprime p.1.natAbs p.2.natAbs) : lowI p.1 p.2 = p := by
  rw [lowI_pos hp]
  have e : Nat.gcd p.1.natAbs p.2.natAbs = 1 := hc
  rw [e]
  simp
/-- a product of two, each in lowest terms or not -/
theorem lowI_mul {a b c d : Int} (hb : 1 ≤ b) (hd : 1 ≤ d) : lowI ((lowI a b).1 * (lowI c d).1) ((lowI a b).2 * (lowI c d).2) = lowI (a * c) (b * d) := by
  obtain ⟨g, hg, ea, eb, p1, c1⟩ := low_spec (a := a) hb
  obtain ⟨k, hk, ec, ed, p2, c2⟩ := low_spec (a := c) hd
  have pos : ∀ x y : Int, 1 ≤ x → 1 ≤ y → 1 ≤ x * y := fun x y hx hy => by
    have := Int.mul_le_mul hx hy (by decide) (by omega)
    simpa using this
  refine lowI_eq (pos _ _ p1 p2) (pos _ _ hb hd) ?_
  generalize lowI a b = x at *
  generalize lowI c d = y at *
  rw [eb, ed, ea, ec]
  ac_rfl
theorem mul_pos1 {x y : Int} (hx : 1 ≤ x) (hy : 1 ≤ y) : 1 ≤ x * y := by
  have := Int.mul_le_mul hx hy (by decide) (by omega)
  simpa using this
/-! ### the factor -/
def tp (r s : Int) : Nat → Int
  | 0 => 1
  | n + 1 => tp r s n * (s + n + r)
def bp (s : Int) : Nat → Int
  | 0 => 1
  | n + 1 => bp s n * (s + n)
def qp (x : Int) : Nat → Int
  | 0 => 1
  | k + 1 => qp x k * (x - (k + 1 : Nat))
theorem bp_pos {s : Int} (hs : 1 ≤ s) : ∀ n, 1 ≤ bp s n
  | 0 => Int.le_refl 1
  | n + 1 => mul_pos1 (bp_pos hs n) (by omega)
theorem tp_zero (s : Int) : ∀ n, tp 0 s n = bp s n
  | 0 => rfl
  | n + 1 => by simp only [tp, bp, tp_zero s n, Int.add_zero]
theorem tp_one (s : Int) : ∀ n, tp 1 s n * s = (s + n) * bp s n
  | 0 => by simp [tp, bp]
  | n + 1 => by
    simp only [tp, bp]
    have ih := tp_one s n
    calc tp 1 s n * (s + n + 1) * s = (s + n + 1) * (tp 1 s n * s) := by ac_rfl
      _ = (s + n + 1) * ((s + n) * bp s n) := by rw [ih]
      _ = (s + ((n + 1 : Nat) : Int)) * (bp s n * (s + n)) := by
        have : s + ((n + 1 : Nat) : Int) = s + n + 1 := by omega
        rw [this]; ac_rfl
theorem qp_step (x : Int) : ∀ k : Nat, (x - k) * qp (x + 1) k = x * qp x k
  | 0 => by simp [qp]
  | k + 1 => by
    simp only [qp]
    have ih := qp_step x k
    have e1 : x + 1 - ((k + 1 : Nat) : Int) = x - k := by omega
    rw [e1]
    calc (x - ((k + 1 : Nat) : Int)) * (qp (x + 1) k * (x - k)) = (x - ((k + 1 : Nat) : Int)) * ((x - k) * qp (x + 1) k) := by ac_rfl
      _ = (x - ((k + 1 : Nat) : Int)) * (x * qp x k) := by rw [ih]
      _ = x * (qp x k * (x - ((k + 1 : Nat) : Int))) := by ac_rfl
theorem tp_qp (s : Int) (k : Nat) : ∀ n : Nat, tp (-(k : Int)) s n * qp (s + n) k = qp s k * bp s n
  | 0 => by simp [tp, bp]
  | n + 1 => by
    simp only [tp, bp]
    have ih := tp_qp s k n
    have e := qp_step (s + n) k
    have e1 : s + ((n + 1 : Nat) : Int) = s + n + 1 := by omega
    have e2 : s + (n : Int) + -(k : Int) = s + n - k := by omega
    rw [e1, e2]
    calc tp (-(k : Int)) s n * (s + n - k) * qp (s + n + 1) k = tp (-(k : Int)) s n * ((s + n - k) * qp (s + n + 1) k) := by ac_rfl
      _ = tp (-(k : Int)) s n * ((s + n) * qp (s + n) k) := by rw [e]
      _ = (s + n) * (tp (-(k : Int)) s n * qp (s + n) k) := by ac_rfl
      _ = (s + n) * (qp s k * bp s n) := by rw [ih]
      _ = qp s k * (bp s n * (s + n)) := by ac_rfl
theorem qp_pos (x : Int) : ∀ k : Nat, (k : Int) < x → 1 ≤ qp x k
  | 0, _ => Int.le_refl 1
  | k + 1, h => mul_pos1 (qp_pos x k (by omega)) (by omega)
theorem tp_vanish {r s : Int} {j : Nat} (h : s + j + r = 0) : ∀ n : Nat, j < n → tp r s n = 0
  | n + 1, hn => by
    simp only [tp]
    by_cases e : j = n
    · subst e
      rw [h, Int.mul_zero]
    · rw [tp_vanish h n (by omega), Int.zero_mul]
def facI (r s : Int) (n : Nat) : Int × Int := lowI (tp r s n) (bp s n)
/-- what the program reckons -/
theorem fac_up {r s : Int} {n : Nat} (hr : r = 0 ∨ r = 1) (hs : 1 ≤ s) : lowI (s + r * n) s = facI r s n := by
  refine lowI_eq hs (bp_pos hs n) ?_
  rcases hr with rfl | rfl
  · rw [Int.zero_mul, Int.add_zero, tp_zero]; ac_rfl
  · rw [Int.one_mul, tp_one]
theorem fac_far {s : Int} {k n : Nat} (hs : (k : Int) < s) : lowI (qp s k) (qp (s + n) k) = facI (-(k : Int)) s n := by
  refine lowI_eq (qp_pos _ k (by omega)) (bp_pos (by omega) n) ?_
  rw [← tp_qp]
theorem fac_zero {s : Int} {k n : Nat} (h1 : 1 ≤ s) (h2 : s ≤ k) (h3 : (k : Int) < s + n) : lowI 0 1 = facI (-(k : Int)) s n := by
  refine lowI_eq (by decide) (bp_pos h1 n) ?_
  rw [tp_vanish (j := ((k : Int) - s).toNat) (by omega) n (by omega)]
  simp
theorem fac_step {r s : Int} {n : Nat} (hs : 1 ≤ s) : lowI ((facI r s n).1 * (lowI (s + n + r) (s + n)).1) ((facI r s n).2 * (lowI (s + n + r) (s + n)).2) = facI r s (n + 1) := by
  unfold facI
  rw [lowI_mul (bp_pos hs n) (by omega)]
  rfl
end Pv

set_option maxHeartbeats 4000000
namespace Pv
local macro_rules
  | `(tactic| simp! only [$ls,*] $[$loc:location]?) => `(tactic| simp -implicitDefEqProofs only [evS, evT, evE, evP, evPs, evV, evA, evAnd, evOr, evI, Pv.a0, Pv.a1, Pv.v0, Pv.v1, opd, slotOf, satOp, Pv.two, Pv.one, ob_s, ob_n, sc_int, sc_bl, sc_str, sc_non, bd_ok, bd_exc, thenE_ok, thenE_exc, thenT_ok, thenT_exc, thenA_ok, thenI_ok, fl_nx, fl_ret, fl_exc, fl_bk, fl_ct, fl_nil, evSs_nil, asBl, asInt, un_non, un_bl, un_int, un_str, un_tup, un_lst, un_obj, un_un, fz, fzs, isSc, isScs, isFz, isFzs, isOwn, isOwns, dNeg, dT, tgA, setAll, okS, res, at2, it_tup, it_lst, chnD, lItems, tmps, cpyLoc, cpyTmp, ixTmp, ioPos, wipeD, out_ret, out_nx, out_exc, outsOf, and_self, and_true, true_and, false_and, and_false, fzs_ints, Pv.sto1, Pv.sto2, ownItems, at2_0, at2_1, at3_0, at3_1, at3_2, at4_0, at4_1, at4_2, at4_3, ix_20, ix_21, ix_40, ix_41, ix_42, ix_43, List.length_map, isFzs, d2_add, d2_sub, d2_lt, d2_le, d2_gt, d2_ge, d2_eq, d2_ne, d2_eqs, d2_eqb, d2_isn_non, d2_isn_int, d2_isn_bl, d2_isn_str, d2_isn_tup, d2_isn_lst, d2_notn_non, d2_notn_int, d2_notn_bl, d2_notn_str, d2_notn_tup, d2_notn_lst, d2_mod, d2_fdiv, Int.reduceToNat, Int.reducePow, Int.reduceEq, Int.reduceLT, Int.reduceLE, Int.reduceNeg, Int.reduceMul, Int.reduceAdd, Int.reduceSub, cst0, cst1, cst2, cst3, cst4, cst5, cst6, cst7, cst8, cst9, cst10, cst11, cst12, go_some, go_nil, sq_nx, sq_ret, sq_exc, sq_bk, sq_ct, lq_nx, lq_ct, lq_bk, lq_ret, lq_exc, lcD_eq, lcR_some, Int.toNat_natCast, ne_eq, not_false_eq_true, not_true_eq_false, dF_gcd, dF_lenL, dF_lenT, dF_int, dF_intb, dF_abs, dF_min, dF_max, dI_ii, dI_ib, dI_is, dI_il, dI_it, dI_bi, dI_bb, dI_bs, dI_bl, dI_bt, dI_si, dI_sb, dI_ss, dI_sl, dI_st, dI_li, dI_lb, dI_ls, dI_ll, dI_lt, dI_ti, dI_tb, dI_ts, dI_tl, dI_tt, dI_ni, dI_nb, dI_ns, dI_nl, dI_nt, Option.map_some, List.length_cons, List.length_nil, List.getElem?_cons_zero, List.getElem?_cons_succ, List.getElem?_nil, List.set_cons_zero, List.set_cons_succ, List.set_nil, List.map_cons, List.map_nil, List.cons_append, List.nil_append, List.append_nil, List.replicate, List.getD_cons_zero, List.getD_cons_succ, List.contains_nil, List.contains_cons, Nat.reduceBEq, Bool.or_false, Bool.false_or, Bool.or_self, Bool.or_true, Bool.true_or, List.isEmpty_nil, List.isEmpty_cons, decide_true, decide_false, if_true, if_false, Bool.false_eq_true, Bool.not_true, Bool.not_false, Bool.and_true, Bool.true_and, Bool.and_self, Bool.and_false, Bool.false_and, reduceIte, Nat.zero_add, Nat.reduceAdd, Nat.reduceSub, Nat.reduceLT, Nat.reduceLeDiff, Nat.reduceEqDiff, decide_eq_true_eq, eq_self, Option.some.injEq, reduceCtorEq, Nat.lt_irrefl, $ls,*] $[$loc]?)
open PySem
/-! ### integers between bounds -/
/-- what may be looked at by its type -/
def ask1 (d : D) : Bool := (tyName d).isSome && isFz d
theorem ask1_un {d : D} (h : ask1 d = true) : isUn d = false := by cases d <;> first | rfl | (simp [ask1, tyName] at h)
theorem ask1_fz {d : D} (h : ask1 d = true) : fz d = d := fz_id d (by simp only [ask1, Bool.and_eq_true] at h; exact h.2)
def inB (d : D) (lo hi : Int) : Bool := match d with
  | .int i => decide (lo ≤ i) && decide (i ≤ hi)
  | _ => false
def xBound (nm : Str) : Exc := ⟨"InvalidBound", ["name"], [.str nm]⟩
def m_check_between : List D → Option Out
  | [d, .str nm, .int lo, .int hi] => if ask1 d then some (if inB d lo hi then .ret d [] else .exc (xBound nm)) else none
  | _ => none
def F_check_between : Fn := ⟨[false, false, false, false], m_check_between⟩
def b_check_between : Ss := .cons (.ite (.lor (.cons (.lnot (.call "is_whole" F_is_whole (.cons (.var 0) (.nil)))) (.cons (.pk (.op2 .lt (.var 0) (.var 2))) (.cons (.pk (.op2 .gt (.var 0) (.var 3))) (.nil))))) (.cons (.raise "InvalidBound" ["name"] (.cons (.var 1) (.nil))) (.nil)) (.nil)) (.cons (.ret (.var 0)) (.nil))
def n_check_between : Nat := 4
theorem iw_loc {d : D} {rs : List D} {s : Nat} (h : rs[s]? = some d) (ha : ask1 d = true) : callD F_is_whole [.loc s] rs = some (.ok (.bl (isIntD d)) rs) :=
  iswhole_res (by rw [res_loc h, ask1_fz ha]) (by simp only [ask1, Bool.and_eq_true] at ha; exact ha.1)
theorem hm_check_between : ∀ ds o, m_check_between ds = some o → ∃ n, evFn n [false, false, false, false] 4 b_check_between ds = some o := by
  intro ds o h
  refine ⟨0, ?_⟩
  unfold m_check_between at h
  split at h
  case h_2 => cases h
  rename_i d nm lo hi
  split at h
  case isFalse => cases h
  rename_i ha
  cases h
  have hu := ask1_un ha
  have hz := ask1_fz ha
  have e1 := iw_loc (rs := [d, .str nm, .int lo, .int hi]) (s := 0) rfl ha
  unfold evFn b_check_between
  by_cases hi' : isIntD d = true
  · obtain ⟨i, rfl⟩ : ∃ i, d = .int i := by cases d <;> first | exact ⟨_, rfl⟩ | (simp [isIntD] at hi')
    by_cases c1 : i < lo
    · have c3 : ¬ lo ≤ i := by omega
      simp! only [evSs_cons, e1, isIntD, c1, inB, c3, xBound]
    · have c3 : lo ≤ i := by omega
      by_cases c2 : hi < i
      · have c4 : ¬ i ≤ hi := by omega
        simp! only [evSs_cons, e1, isIntD, c1, c2, inB, c3, c4, xBound]
      · have c4 : i ≤ hi := by omega
        simp! only [evSs_cons, e1, isIntD, c1, c2, inB, c3, c4, xBound]
  · have hi' : isIntD d = false := by simpa using hi'
    have hb : inB d lo hi = false := by cases d <;> first | rfl | (simp [isIntD] at hi')
    simp! only [evSs_cons, e1, hi', hu, hz, hb, xBound]
theorem call_x4 {m : List D → Option Out} {x : Exc} {rs : List D} {A B C E : Arg} (hm : m [res rs A, res rs B, res rs C, res rs E] = some (.exc x)) : callD ⟨[false, false, false, false], m⟩ [A, B, C, E] rs = some (.exc x rs) := by
  cases A <;> cases B <;> cases C <;> cases E <;> simp [callD, ioOf, nodupB, passD, blank, hm]
theorem call_x1 {m : List D → Option Out} {x : Exc} {rs : List D} {A : Arg} (hm : m [res rs A] = some (.exc x)) : callD ⟨[false], m⟩ [A] rs = some (.exc x rs) := by
  cases A <;> simp [callD, ioOf, nodupB, passD, blank, hm]
theorem btw_ok {d : D} {rs : List D} {A : Arg} {nm : Str} {lo hi : Int} (hA : res rs A = d) (ha : ask1 d = true) (hb : inB d lo hi = true) : callD F_check_between [A, .tmp (.str nm), .tmp (.int lo), .tmp (.int hi)] rs = some (.ok d rs) := call_v4 (by
  rw [hA]
  show m_check_between [d, .str nm, .int lo, .int hi] = _
  simp only [m_check_between, ha, hb, if_true]) (by cases d <;> first | rfl | (simp [inB] at hb))
theorem btw_no {d : D} {rs : List D} {A : Arg} {nm : Str} {lo hi : Int} (hA : res rs A = d) (ha : ask1 d = true) (hb : inB d lo hi = false) : callD F_check_between [A, .tmp (.str nm), .tmp (.int lo), .tmp (.int hi)] rs = some (.exc (xBound nm) rs) := call_x4 (by
  rw [hA]
  show m_check_between [d, .str nm, .int lo, .int hi] = _
  simp only [m_check_between, ha, hb, if_true]; rfl)
/-! ### loops that multiply -/
theorem rngD_succ (lo : Int) (m : Nat) : rngD lo (m + 1) = .int lo :: rngD (lo + 1) m := by
  unfold rngD
  rw [List.range_succ_eq_map, List.map_cons, List.map_map]
  refine congr (congrArg _ ?_) (List.map_congr_left fun a _ => ?_)
  · show D.int (lo + ((0 : Nat) : Int)) = _
    congr 1
    omega
  · show D.int (lo + ((a + 1 : Nat) : Int)) = D.int (lo + 1 + (a : Int))
    congr 1
    omega

theorem mul_step {x y : Int} {a b : Nat} (hx : x.natAbs < 2 ^ a) (hy : y.natAbs < 2 ^ b) : (x * y).natAbs < 2 ^ (a + b) := by
  rw [Int.natAbs_mul, Nat.pow_add]
  exact Nat.mul_lt_mul'' hx hy
end Pv

set_option maxHeartbeats 4000000
namespace Pv
local macro_rules
  | `(tactic| simp! only [$ls,*] $[$loc:location]?) => `(tactic| simp -implicitDefEqProofs only [evS, evT, evE, evP, evPs, evV, evA, evAnd, evOr, evI, Pv.a0, Pv.a1, Pv.v0, Pv.v1, opd, slotOf, satOp, Pv.two, Pv.one, ob_s, ob_n, sc_int, sc_bl, sc_str, sc_non, bd_ok, bd_exc, thenE_ok, thenE_exc, thenT_ok, thenT_exc, thenA_ok, thenI_ok, fl_nx, fl_ret, fl_exc, fl_bk, fl_ct, fl_nil, evSs_nil, asBl, asInt, un_non, un_bl, un_int, un_str, un_tup, un_lst, un_obj, un_un, fz, fzs, isSc, isScs, isFz, isFzs, isOwn, isOwns, dNeg, dT, tgA, setAll, okS, res, at2, it_tup, it_lst, chnD, lItems, tmps, cpyLoc, cpyTmp, ixTmp, ioPos, wipeD, out_ret, out_nx, out_exc, outsOf, and_self, and_true, true_and, false_and, and_false, fzs_ints, Pv.sto1, Pv.sto2, ownItems, at2_0, at2_1, at3_0, at3_1, at3_2, at4_0, at4_1, at4_2, at4_3, ix_20, ix_21, ix_40, ix_41, ix_42, ix_43, List.length_map, isFzs, d2_add, d2_sub, d2_lt, d2_le, d2_gt, d2_ge, d2_eq, d2_ne, d2_eqs, d2_eqb, d2_isn_non, d2_isn_int, d2_isn_bl, d2_isn_str, d2_isn_tup, d2_isn_lst, d2_notn_non, d2_notn_int, d2_notn_bl, d2_notn_str, d2_notn_tup, d2_notn_lst, d2_mod, d2_fdiv, Int.reduceToNat, Int.reducePow, Int.reduceEq, Int.reduceLT, Int.reduceLE, Int.reduceNeg, Int.reduceMul, Int.reduceAdd, Int.reduceSub, cst0, cst1, cst2, cst3, cst4, cst5, cst6, cst7, cst8, cst9, cst10, cst11, cst12, go_some, go_nil, sq_nx, sq_ret, sq_exc, sq_bk, sq_ct, lq_nx, lq_ct, lq_bk, lq_ret, lq_exc, lcD_eq, lcR_some, Int.toNat_natCast, ne_eq, not_false_eq_true, not_true_eq_false, dF_gcd, dF_lenL, dF_lenT, dF_int, dF_intb, dF_abs, dF_min, dF_max, dI_ii, dI_ib, dI_is, dI_il, dI_it, dI_bi, dI_bb, dI_bs, dI_bl, dI_bt, dI_si, dI_sb, dI_ss, dI_sl, dI_st, dI_li, dI_lb, dI_ls, dI_ll, dI_lt, dI_ti, dI_tb, dI_ts, dI_tl, dI_tt, dI_ni, dI_nb, dI_ns, dI_nl, dI_nt, Option.map_some, List.length_cons, List.length_nil, List.getElem?_cons_zero, List.getElem?_cons_succ, List.getElem?_nil, List.set_cons_zero, List.set_cons_succ, List.set_nil, List.map_cons, List.map_nil, List.cons_append, List.nil_append, List.append_nil, List.replicate, List.getD_cons_zero, List.getD_cons_succ, List.contains_nil, List.contains_cons, Nat.reduceBEq, Bool.or_false, Bool.false_or, Bool.or_self, Bool.or_true, Bool.true_or, List.isEmpty_nil, List.isEmpty_cons, decide_true, decide_false, if_true, if_false, Bool.false_eq_true, Bool.not_true, Bool.not_false, Bool.and_true, Bool.true_and, Bool.and_self, Bool.and_false, Bool.false_and, reduceIte, Nat.zero_add, Nat.reduceAdd, Nat.reduceSub, Nat.reduceLT, Nat.reduceLeDiff, Nat.reduceEqDiff, decide_eq_true_eq, eq_self, Option.some.injEq, reduceCtorEq, Nat.lt_irrefl, $ls,*] $[$loc]?)
open PySem
/-! ### books: the form of a lottery -/
def b_has_form : Ss := .cons (.ite (.lor (.cons (.lnot (.pk (.isi (.var 0) "list"))) (.cons (.lnot (.chn .le .le (.con (.int 1)) (.fnc .len (.cons (.var 0) (.nil))) (.glo "MOST_ENTRIES" (.int 4)))) (.nil)))) (.cons (.ret (.con (.bl false))) (.nil)) (.nil)) (.cons (.for_ (.nm 1) (.seqL (.var 0)) (.cons (.ite (.lor (.cons (.lnot (.pk (.isi (.var 1) "tuple"))) (.cons (.pk (.op2 .ne (.fnc .len (.cons (.var 1) (.nil))) (.con (.int 2)))) (.nil)))) (.cons (.ret (.con (.bl false))) (.nil)) (.nil)) (.nil))) (.cons (.ret (.con (.bl true))) (.nil)))
def n_has_form : Nat := 2
def b_is_outcome : Ss := .cons (.ite (.lor (.cons (.lnot (.pk (.isi (.var 0) "list"))) (.cons (.pk (.op2 .ne (.fnc .len (.cons (.var 0) (.nil))) (.var 1))) (.nil)))) (.cons (.ret (.con (.bl false))) (.nil)) (.nil)) (.cons (.for_ (.nm 2) (.seqL (.var 0)) (.cons (.ite (.lor (.cons (.lnot (.call "is_whole" F_is_whole (.cons (.var 2) (.nil)))) (.cons (.lnot (.chn .le .le (.con (.int 0)) (.var 2) (.glo "MOST_PAGES" (.int 20)))) (.nil)))) (.cons (.ret (.con (.bl false))) (.nil)) (.nil)) (.nil))) (.cons (.ret (.con (.bl true))) (.nil)))
def n_is_outcome : Nat := 3
def b_weight_of : Ss := .cons (.ret (.fnc .sum (.cons (.lc (.tp [2, 3]) (.zip (.var 0) (.var 1)) (.nil) (.pk (.op2 .mul (.var 2) (.var 3))) [2, 3]) (.nil)))) (.nil)
def n_weight_of : Nat := 4
def m_has_form : List D → Option Out := evFn 0 [false] n_has_form b_has_form
def F_has_form : Fn := ⟨[false], m_has_form⟩
def m_is_outcome : List D → Option Out := evFn 0 [false, false] n_is_outcome b_is_outcome
def F_is_outcome : Fn := ⟨[false, false], m_is_outcome⟩
def m_weight_of : List D → Option Out := evFn 0 [false, false] n_weight_of b_weight_of
def F_weight_of : Fn := ⟨[false, false], m_weight_of⟩
/-- a share with an outcome, as they are passed -/
def pairD (p : D × D) : D := .tup [p.1, p.2]
theorem fzs_pairs : ∀ {xs : List (D × D)}, (∀ p ∈ xs, isFz p.1 = true ∧ isFz p.2 = true) → fzs (xs.map pairD) = xs.map pairD
  | [], _ => rfl
  | p :: xs, h => by
    have h1 := h p List.mem_cons_self
    simp only [List.map_cons, fzs, fzs_pairs (fun q hq => h q (List.mem_cons_of_mem _ hq)), pairD, fz, fz_id _ h1.1, fz_id _ h1.2]
theorem has_form_ok {xs : List (D × D)} (h1 : 1 ≤ xs.length) (h4 : xs.length ≤ 4) (hz : ∀ p ∈ xs, isFz p.1 = true ∧ isFz p.2 = true) : m_has_form [.lst false (xs.map pairD)] = some (.ret (.bl true) []) := by
  have hx := fzs_pairs hz
  have e1 : (1 : Int) ≤ (xs.length : Int) := by omega
  have e4 : (xs.length : Int) ≤ 4 := by omega
  obtain ⟨rs', e, p⟩ := for_map (asg := tgA [] (.nm 1)) (body := evSs 0 [] (match b_has_form with
    | .cons _ (.cons (.for_ _ _ b) _) => b
    | _ => .nil)) pairD xs (fun _ rs => ∃ x, rs = [.lst false (xs.map pairD), x]) [.lst false (xs.map pairD), .un] ⟨_, rfl⟩ fun j x rs hj ⟨y, hy⟩ => by
    subst hy
    have hq := hz x (List.mem_of_getElem? hj)
    refine turnP_of rfl ?_
    unfold b_has_form pairD
    simp! only [evSs_cons, fz_id _ hq.1, fz_id _ hq.2, nxP_nx]
    exact ⟨_, rfl⟩
  obtain ⟨y, rfl⟩ := p
  unfold m_has_form evFn b_has_form n_has_form
  unfold b_has_form at e
  dsimp only at e
  rw [evSs_cons]; simp! only [hx, e1, e4]
  rw [evSs_cons]; simp! only [hx]
  rw [e]
  simp! only [evSs_cons]
/-- a list of whole numbers -/
def intsD' (ns : List Int) : D := .lst false (ns.map .int)
theorem at_natI {ns : List Int} {j : Nat} {i : Int} (h : ns[j]? = some i) : L2.atI (ns.map D.int) (j : Int) = some (.int i) := at_nat (by rw [List.getElem?_map, h]; rfl)
theorem iw_int {i : Int} {s : Nat} {rs : List D} (h : rs[s]? = some (.int i)) : callD F_is_whole [.loc s] rs = some (.ok (.bl true) rs) := iw_loc h rfl
theorem is_outcome_ok {ns : List Int} (hb : ∀ n ∈ ns, 0 ≤ n ∧ n ≤ 20) : m_is_outcome [.lst false (ns.map D.int), .int ns.length] = some (.ret (.bl true) []) := by
  obtain ⟨rs', e, p⟩ := for_map (asg := tgA [] (.nm 2)) (body := evSs 0 [] (match b_is_outcome with
    | .cons _ (.cons (.for_ _ _ b) _) => b
    | _ => .nil)) D.int ns (fun _ rs => ∃ x, rs = [.lst false (ns.map D.int), .int ns.length, x]) [.lst false (ns.map D.int), .int ns.length, .un] ⟨_, rfl⟩ fun j x rs hj ⟨y, hy⟩ => by
    subst hy
    have hq := hb x (List.mem_of_getElem? hj)
    have ew := iw_int (i := x) (s := 2) (rs := [.lst false (ns.map D.int), .int ns.length, .int x]) rfl
    refine turnP_of rfl ?_
    unfold b_is_outcome
    simp! only [evSs_cons, ew, hq.1, hq.2, nxP_nx]
    exact ⟨_, rfl⟩
  obtain ⟨y, rfl⟩ := p
  unfold m_is_outcome evFn b_is_outcome n_is_outcome
  unfold b_is_outcome at e
  dsimp only at e
  rw [evSs_cons]; simp! only [d2_nee]
  rw [evSs_cons]; simp! only []
  rw [e]
  simp! only [evSs_cons]
/-- the weight of an outcome -/
def dot : List Int → List Int → Int
  | a :: as, b :: bs => a * b + dot as bs
  | _, _ => 0
theorem zipD_map : ∀ (as bs : List Int), zipD (as.map D.int) (bs.map D.int) = (as.zip bs).map fun p => .tup [.int p.1, .int p.2]
  | [], _ => by simp [zipD]
  | _ :: _, [] => by simp [zipD]
  | a :: as, b :: bs => by simp [zipD, zipD_map as bs]
theorem dot_zip : ∀ (as bs : List Int), ((as.zip bs).map fun p => p.1 * p.2).sum = dot as bs
  | [], _ => by simp [dot]
  | _ :: _, [] => by simp [dot]
  | a :: as, b :: bs => by
    rw [List.zip_cons_cons, List.map_cons, List.sum_cons, dot_zip as bs]
    simp [dot]
theorem dF_sum (ns : List Int) (o : Bool) : dF .sum [.lst o (ns.map D.int)] = some (.int ns.sum) := by
  show ((intsOf (ns.map D.int)).map fun ns => D.int ns.sum) = _
  rw [intsOf_map]; rfl
theorem weight_of_ok {sz ns : List Int} (h1 : ∀ a ∈ sz, 0 ≤ a ∧ a ≤ 1000) (h2 : ∀ a ∈ ns, 0 ≤ a ∧ a ≤ 1000) (hl : sz.length ≤ 1000) : m_weight_of [.lst false (sz.map D.int), .tup (ns.map D.int)] = some (.ret (.int (dot sz ns)) []) := by
  have e := lc_map (asg := tgA [] (.tp [2, 3])) (own := [2, 3]) (cd := evAnd .nil) (el := evE (.pk (.op2 .mul (.var 2) (.var 3))) false) (fun p : Int × Int => .tup [.int p.1, .int p.2]) (fun p => .int (p.1 * p.2)) (sz.zip ns) [.lst false (sz.map D.int), .tup (ns.map D.int), .un, .un] (by rw [List.length_zip]; omega) fun x acc hx ha => by
    obtain ⟨a1, a2⟩ := List.of_mem_zip hx
    have b1 := h1 _ a1
    have b2 := h2 _ a2
    have mm : mulOk x.1 x.2 = true := mul_of 10 10 (by omega) (by omega) (by decide) (by decide)
    rw [lcP_eq]
    simp! only [d2_mul mm, wipeD]
    first | exact ha | exact ⟨ha, by first | trivial | rfl⟩ | exact ⟨ha, by first | trivial | rfl, by first | trivial | rfl⟩
  unfold m_weight_of evFn b_weight_of n_weight_of
  simp! only [] at e
  rw [evSs_cons]; simp! only [lcD, zipD_map, wipeD]
  rw [e]
  have e2 : ((sz.zip ns).map fun p : Int × Int => D.int (p.1 * p.2)) = ((sz.zip ns).map fun p : Int × Int => p.1 * p.2).map D.int := by rw [List.map_map]; rfl
  rw [e2]
  simp! only [dF_sum, dot_zip]
end Pv

set_option maxHeartbeats 4000000
namespace Pv
local macro_rules
  | `(tactic| simp! only [$ls,*] $[$loc:location]?) => `(tactic| simp -implicitDefEqProofs only [evS, evT, evE, evP, evPs, evV, evA, evAnd, evOr, evI, Pv.a0, Pv.a1, Pv.v0, Pv.v1, opd, slotOf, satOp, Pv.two, Pv.one, ob_s, ob_n, sc_int, sc_bl, sc_str, sc_non, bd_ok, bd_exc, thenE_ok, thenE_exc, thenT_ok, thenT_exc, thenA_ok, thenI_ok, fl_nx, fl_ret, fl_exc, fl_bk, fl_ct, fl_nil, evSs_nil, asBl, asInt, un_non, un_bl, un_int, un_str, un_tup, un_lst, un_obj, un_un, fz, fzs, isSc, isScs, isFz, isFzs, isOwn, isOwns, dNeg, dT, tgA, setAll, okS, res, at2, it_tup, it_lst, chnD, lItems, tmps, cpyLoc, cpyTmp, ixTmp, ioPos, wipeD, out_ret, out_nx, out_exc, outsOf, and_self, and_true, true_and, false_and, and_false, fzs_ints, Pv.sto1, Pv.sto2, ownItems, at2_0, at2_1, at3_0, at3_1, at3_2, at4_0, at4_1, at4_2, at4_3, ix_20, ix_21, ix_40, ix_41, ix_42, ix_43, List.length_map, isFzs, d2_add, d2_sub, d2_lt, d2_le, d2_gt, d2_ge, d2_eq, d2_ne, d2_eqs, d2_eqb, d2_isn_non, d2_isn_int, d2_isn_bl, d2_isn_str, d2_isn_tup, d2_isn_lst, d2_notn_non, d2_notn_int, d2_notn_bl, d2_notn_str, d2_notn_tup, d2_notn_lst, d2_mod, d2_fdiv, Int.reduceToNat, Int.reducePow, Int.reduceEq, Int.reduceLT, Int.reduceLE, Int.reduceNeg, Int.reduceMul, Int.reduceAdd, Int.reduceSub, cst0, cst1, cst2, cst3, cst4, cst5, cst6, cst7, cst8, cst9, cst10, cst11, cst12, go_some, go_nil, sq_nx, sq_ret, sq_exc, sq_bk, sq_ct, lq_nx, lq_ct, lq_bk, lq_ret, lq_exc, lcD_eq, lcR_some, Int.toNat_natCast, ne_eq, not_false_eq_true, not_true_eq_false, dF_gcd, dF_lenL, dF_lenT, dF_int, dF_intb, dF_abs, dF_min, dF_max, dI_ii, dI_ib, dI_is, dI_il, dI_it, dI_bi, dI_bb, dI_bs, dI_bl, dI_bt, dI_si, dI_sb, dI_ss, dI_sl, dI_st, dI_li, dI_lb, dI_ls, dI_ll, dI_lt, dI_ti, dI_tb, dI_ts, dI_tl, dI_tt, dI_ni, dI_nb, dI_ns, dI_nl, dI_nt, Option.map_some, List.length_cons, List.length_nil, List.getElem?_cons_zero, List.getElem?_cons_succ, List.getElem?_nil, List.set_cons_zero, List.set_cons_succ, List.set_nil, List.map_cons, List.map_nil, List.cons_append, List.nil_append, List.append_nil, List.replicate, List.getD_cons_zero, List.getD_cons_succ, List.contains_nil, List.contains_cons, Nat.reduceBEq, Bool.or_false, Bool.false_or, Bool.or_self, Bool.or_true, Bool.true_or, List.isEmpty_nil, List.isEmpty_cons, decide_true, decide_false, if_true, if_false, Bool.false_eq_true, Bool.not_true, Bool.not_false, Bool.and_true, Bool.true_and, Bool.and_self, Bool.and_false, Bool.false_and, reduceIte, Nat.zero_add, Nat.reduceAdd, Nat.reduceSub, Nat.reduceLT, Nat.reduceLeDiff, Nat.reduceEqDiff, decide_eq_true_eq, eq_self, Option.some.injEq, reduceCtorEq, Nat.lt_irrefl, $ls,*] $[$loc]?)
open PySem
def b_check_weights : Ss := .cons (.ite (.lor (.cons (.lnot (.pk (.isi (.var 0) "list"))) (.cons (.lnot (.chn .le .le (.con (.int 1)) (.fnc .len (.cons (.var 0) (.nil))) (.glo "MOST_KINDS" (.int 6)))) (.nil)))) (.cons (.raise "InvalidBook" ["part", "at"] (.cons (.con (.str "weights")) (.cons (.pk (.neg (.con (.int 1)))) (.nil)))) (.nil)) (.nil)) (.cons (.for_ (.tp [1, 2]) (.enm (.var 0)) (.cons (.ite (.lor (.cons (.lnot (.call "is_whole" F_is_whole (.cons (.var 2) (.nil)))) (.cons (.lnot (.chn .le .le (.con (.int 1)) (.var 2) (.glo "MOST_GAPS" (.int 12)))) (.nil)))) (.cons (.raise "InvalidBook" ["part", "at"] (.cons (.con (.str "weights")) (.cons (.var 1) (.nil)))) (.nil)) (.nil)) (.nil))) (.cons (.ret (.cpy (.var 0))) (.nil)))
def n_check_weights : Nat := 3
def m_check_weights : List D → Option Out := evFn 0 [false] n_check_weights b_check_weights
def F_check_weights : Fn := ⟨[false], m_check_weights⟩
theorem enumD_ints : ∀ (ns : List Int) (k : Nat), enumD k (ns.map D.int) = (ns.zipIdx k).map fun p => .tup [.int (p.2 : Nat), .int p.1]
  | [], _ => rfl
  | n :: ns, k => by simp only [List.map_cons, enumD, List.zipIdx_cons, enumD_ints ns (k + 1)]
theorem isFzs_ints : ∀ ns : List Int, isFzs (ns.map D.int) = true
  | [] => rfl
  | n :: ns => by simp [isFzs, isFz, isFzs_ints ns]
theorem check_weights_ok {ns : List Int} (h1 : 1 ≤ ns.length) (h6 : ns.length ≤ 6) (hb : ∀ n ∈ ns, 1 ≤ n ∧ n ≤ 12) : m_check_weights [.lst false (ns.map D.int)] = some (.ret (.lst true (ns.map D.int)) []) := by
  have e1 : (1 : Int) ≤ (ns.length : Int) := by omega
  have e6 : (ns.length : Int) ≤ 6 := by omega
  obtain ⟨rs', e, p⟩ := for_map (asg := tgA [] (.tp [1, 2])) (body := evSs 0 [] (match b_check_weights with
    | .cons _ (.cons (.for_ _ _ b) _) => b
    | _ => .nil)) (fun p : Int × Nat => .tup [.int (p.2 : Nat), .int p.1]) (ns.zipIdx 0) (fun _ rs => ∃ x y, rs = [.lst false (ns.map D.int), x, y]) [.lst false (ns.map D.int), .un, .un] ⟨_, _, rfl⟩ fun j x rs hj ⟨y, z, hy⟩ => by
    subst hy
    have hm : x.1 ∈ ns := by
      have := List.mem_of_getElem? hj
      exact (List.mem_zipIdx' this).2 ▸ List.getElem_mem _
    have hq := hb _ hm
    have ew := iw_int (i := x.1) (s := 2) (rs := [.lst false (ns.map D.int), .int (x.2 : Nat), .int x.1]) rfl
    refine turnP_of rfl ?_
    unfold b_check_weights
    simp! only [evSs_cons, ew, hq.1, hq.2, nxP_nx]
    exact ⟨_, _, rfl⟩
  obtain ⟨y, z, rfl⟩ := p
  unfold m_check_weights evFn b_check_weights n_check_weights
  unfold b_check_weights at e
  dsimp only at e
  rw [evSs_cons]; simp! only [e1, e6]
  rw [evSs_cons]; simp! only [enumD_ints]
  rw [e]
  simp! only [evSs_cons, isFzs_ints]
/-! ### the shares of a lottery -/
def b_common_bottom : Ss := .cons (.asg (.nm 1) (.con (.int 1))) (.cons (.for_ (.nm 2) (.seqL (.var 0)) (.cons (.asg (.nm 1) (.pk (.op2 .mul (.op2 .fdiv (.var 1) (.fnc .gcd (.cons (.var 1) (.cons (.ix (.var 2) (.con (.int 1))) (.nil))))) (.ix (.var 2) (.con (.int 1)))))) (.nil))) (.cons (.ret (.var 1)) (.nil)))
def n_common_bottom : Nat := 3
def b_total : Ss := .cons (.asg (.nm 1) (.glo "ZERO" (.tup [.int 0, .int 1]))) (.cons (.for_ (.nm 2) (.seqL (.var 0)) (.cons (.asg (.nm 1) (.call "plus" F_plus (.cons (.var 1) (.cons (.var 2) (.nil))))) (.nil))) (.cons (.ret (.var 1)) (.nil)))
def n_total : Nat := 3
def m_common_bottom : List D → Option Out := evFn 0 [false] n_common_bottom b_common_bottom
def F_common_bottom : Fn := ⟨[false], m_common_bottom⟩
def m_total : List D → Option Out := evFn 0 [false] n_total b_total
def F_total : Fn := ⟨[false], m_total⟩
def frs (l : List (Int × Int)) : List D := l.map frD
theorem fzs_frs : ∀ l : List (Int × Int), fzs (frs l) = frs l
  | [] => rfl
  | p :: l => by
    have := fzs_frs l
    simp only [frs] at this
    simp only [frs, List.map_cons, fzs, this, frD, fz]
/-- the least common multiple of the bottoms -/
def lcmB (l : List (Int × Int)) : Nat := l.foldl (fun r p => Nat.lcm r p.2.natAbs) 1
theorem lcmB_pos : ∀ (l : List (Int × Int)) (r : Nat), 0 < r → (∀ p ∈ l, 1 ≤ p.2) → 0 < l.foldl (fun r p => Nat.lcm r p.2.natAbs) r
  | [], r, h, _ => h
  | p :: l, r, h, hp => lcmB_pos l _ (Nat.lcm_pos h (by have := hp p List.mem_cons_self; omega)) fun q hq => hp q (List.mem_cons_of_mem _ hq)
theorem lcm_step {r : Nat} {d : Int} (hr : 0 < r) (hd : 1 ≤ d) : ((r : Int).fdiv (Nat.gcd r d.natAbs : Nat)) * d = (Nat.lcm r d.natAbs : Nat) := by
  have e : d = (d.natAbs : Int) := by omega
  have g0 : 0 < Nat.gcd r d.natAbs := Nat.gcd_pos_of_pos_left _ hr
  rw [Int.fdiv_eq_ediv_of_nonneg _ (by omega)]
  have e1 : (r : Int) / ((Nat.gcd r d.natAbs : Nat) : Int) = ((r / Nat.gcd r d.natAbs : Nat) : Int) := by norm_cast
  rw [e1]
  have e2 : Nat.lcm r d.natAbs = r / Nat.gcd r d.natAbs * d.natAbs := by
    rw [Nat.lcm, Nat.mul_comm r, Nat.mul_div_assoc _ (Nat.gcd_dvd_left _ _), Nat.mul_comm]
  rw [e2]
  push_cast
  rw [← e]
theorem lcm_bd {B : Nat} : ∀ (l : List (Int × Int)) (r : Nat), 0 < B → r ∣ B → (∀ p ∈ l, p.2.natAbs ∣ B) → l.foldl (fun r p => Nat.lcm r p.2.natAbs) r ∣ B
  | [], r, _, h, _ => h
  | p :: l, r, hB, h, hp => lcm_bd l _ hB (Nat.lcm_dvd h (hp p List.mem_cons_self)) fun q hq => hp q (List.mem_cons_of_mem _ hq)
theorem common_bottom_ok {l : List (Int × Int)} {B : Nat} (hB : 0 < B) (hB2 : B < 2 ^ 64) (hp : ∀ p ∈ l, 1 ≤ p.2 ∧ p.2.natAbs ∣ B) : m_common_bottom [.lst false (frs l)] = some (.ret (.int (lcmB l : Nat)) []) := by
  obtain ⟨rs', e, p⟩ := for_map (asg := tgA [] (.nm 2)) (body := evSs 0 [] (match b_common_bottom with
    | .cons _ (.cons (.for_ _ _ b) _) => b
    | _ => .nil)) frD l (fun i rs => ∃ x, rs = [.lst false (frs l), .int (lcmB (l.take i) : Nat), x]) [.lst false (frs l), .int 1, .un] ⟨_, rfl⟩ fun j x rs hj ⟨y, hy⟩ => by
    subst hy
    have hx := hp x (List.mem_of_getElem? hj)
    have hr : 0 < lcmB (l.take j) := lcmB_pos _ 1 (by decide) fun q hq => (hp q (List.mem_of_mem_take hq)).1
    have hd : lcmB (l.take j) ∣ B := lcm_bd _ 1 hB (Nat.one_dvd _) fun q hq => (hp q (List.mem_of_mem_take hq)).2
    have et : lcmB (l.take (j + 1)) = Nat.lcm (lcmB (l.take j)) x.2.natAbs := by
      unfold lcmB
      rw [List.take_succ, hj]
      simp
    have g0 : ((Nat.gcd (lcmB (l.take j)) x.2.natAbs : Nat) : Int) ≠ 0 := by
      have := Nat.gcd_pos_of_pos_left x.2.natAbs hr
      omega
    generalize lcmB (l.take j) = r at *
    have l1 := Nat.le_of_dvd hB hd
    have l2 := Nat.le_of_dvd hB hx.2
    have st := lcm_step hr hx.1
    have mm : mulOk ((r : Int).fdiv (Nat.gcd r x.2.natAbs : Nat)) x.2 = true := by
      refine mul_of 64 64 ?_ (by omega) (by decide) (by decide)
      rw [Int.fdiv_eq_ediv_of_nonneg _ (by omega)]
      have := Int.natAbs_ediv_le_natAbs (r : Int) (Nat.gcd r x.2.natAbs : Nat)
      rw [Int.natAbs_natCast] at this
      omega
    refine turnP_of rfl ?_
    unfold b_common_bottom frD
    simp! only [evSs_cons, Int.natAbs_natCast, d2_fdiv g0, d2_mul mm, st, nxP_nx]
    exact ⟨_, by rw [et]⟩
  obtain ⟨y, rfl⟩ := p
  rw [List.take_length] at e
  unfold m_common_bottom evFn b_common_bottom n_common_bottom
  unfold b_common_bottom at e
  dsimp only at e
  have hz := fzs_frs l
  rw [evSs_cons]; simp! only []
  rw [evSs_cons]; simp! only [hz]
  unfold frs at e ⊢
  rw [e]
  simp! only [evSs_cons]
theorem low_zero {b : Int} (hb : 1 ≤ b) : lowI 0 b = (0, 1) := by
  have e : lowI 0 b = lowI 0 1 := lowI_eq hb (by decide) (by simp)
  rw [e]; decide
theorem low_self {b : Int} (hb : 1 ≤ b) : lowI b b = (1, 1) := by
  have e : lowI b b = lowI 1 1 := lowI_eq hb (by decide) (by simp)
  rw [e]; decide
theorem low_add {x y b : Int} (hb : 1 ≤ b) : lowI ((lowI x b).1 * (lowI y b).2 + (lowI y b).1 * (lowI x b).2) ((lowI x b).2 * (lowI y b).2) = lowI (x + y) b := by
  obtain ⟨g, hg, ea, eb, p1, c1⟩ := low_spec (a := x) hb
  obtain ⟨k, hk, ec, ed, p2, c2⟩ := low_spec (a := y) hb
  have pos : ∀ x y : Int, 1 ≤ x → 1 ≤ y → 1 ≤ x * y := fun x y hx hy => by
    have := Int.mul_le_mul hx hy (by decide) (by omega)
    simpa using this
  refine lowI_eq (pos _ _ p1 p2) hb ?_
  generalize lowI x b = u at *
  generalize lowI y b = v at *
  rw [Int.add_mul, Int.add_mul]
  have h1 : u.1 * v.2 * b = x * (u.2 * v.2) := by
    calc u.1 * v.2 * b = u.1 * v.2 * (g * u.2) := by rw [← eb]
      _ = (g * u.1) * (u.2 * v.2) := by ac_rfl
      _ = x * (u.2 * v.2) := by rw [← ea]
  have h2 : v.1 * u.2 * b = y * (u.2 * v.2) := by
    calc v.1 * u.2 * b = v.1 * u.2 * (k * v.2) := by rw [← ed]
      _ = (k * v.1) * (u.2 * v.2) := by ac_rfl
      _ = y * (u.2 * v.2) := by rw [← ec]
  rw [h1, h2]
theorem call_plus {p q : Int × Int} {n : Nat} {rs : List D} {A B : Arg} (hn : 0 < n) (hn2 : n ≤ 1000000) (h1 : res rs A = frD p) (h2 : res rs B = frD q) (hp : FB n p) (hq : FB n q) : callD F_plus [A, B] rs = some (.ok (frD (lowI (p.1 * q.2 + q.1 * p.2) (p.2 * q.2))) rs) := call_v2 (by
  rw [h1, h2]
  exact plus_eq hn hn2 hp hq) rfl
theorem sum_le : ∀ (l : List Int) (j : Nat), (∀ p ∈ l, 0 ≤ p) → 0 ≤ (l.take j).sum ∧ (l.take j).sum ≤ l.sum
  | [], j, _ => by simp
  | x :: l, 0, h => by
    have := sum_le l l.length fun p hp => h p (List.mem_cons_of_mem _ hp)
    rw [List.take_length] at this
    have := h x List.mem_cons_self
    simp only [List.take_zero, List.sum_nil, List.sum_cons]
    omega
  | x :: l, j + 1, h => by
    have := sum_le l j fun p hp => h p (List.mem_cons_of_mem _ hp)
    have := h x List.mem_cons_self
    simp only [List.take_succ_cons, List.sum_cons]
    omega
theorem total_ok {ps : List Int} {b : Int} (hb : 1 ≤ b) (hb2 : b ≤ 1000) (h : ∀ p ∈ ps, 0 ≤ p) (hs : ps.sum ≤ 1000) : m_total [.lst false (frs (ps.map fun p => lowI p b))] = some (.ret (frD (lowI ps.sum b)) []) := by
  have key : ∀ a : Int, 0 ≤ a → a ≤ 1000 → FB 16 (lowI a b) := fun a h0 h1 => lowI_fb (by omega) hb (by omega)
  obtain ⟨rs', e, p⟩ := for_map (asg := tgA [] (.nm 2)) (body := evSs 0 [] (match b_total with
    | .cons _ (.cons (.for_ _ _ b) _) => b
    | _ => .nil)) (fun p => frD (lowI p b)) ps (fun i rs => ∃ x, rs = [.lst false (frs (ps.map fun p => lowI p b)), frD (lowI (ps.take i).sum b), x]) [.lst false (frs (ps.map fun p => lowI p b)), .tup [.int 0, .int 1], .un] ⟨_, by rw [List.take_zero, List.sum_nil, low_zero hb]; rfl⟩ fun j x rs hj ⟨y, hy⟩ => by
    subst hy
    have hm := List.mem_of_getElem? hj
    have q0 := h x hm
    have q1 := sum_le ps j h
    have q2 := sum_le ps (j + 1) h
    have et : (ps.take (j + 1)).sum = (ps.take j).sum + x := by rw [List.take_succ, hj]; simp
    have ec := call_plus (n := 16) (rs := [.lst false (frs (ps.map fun p => lowI p b)), frD (lowI (ps.take j).sum b), frD (lowI x b)]) (A := .loc 1) (B := .loc 2) (p := lowI (ps.take j).sum b) (q := lowI x b) (by decide) (by decide) rfl rfl (key _ q1.1 (by omega)) (key _ q0 (by omega))
    rw [low_add hb, ← et] at ec
    refine turnP_of rfl ?_
    unfold b_total
    unfold frD at ec ⊢
    simp! only [evSs_cons, ec, nxP_nx]
    exact ⟨_, rfl⟩
  obtain ⟨y, rfl⟩ := p
  rw [List.take_length] at e
  unfold m_total evFn b_total n_total
  unfold b_total at e
  dsimp only at e
  have hz := fzs_frs (ps.map fun p => lowI p b)
  have hm : frs (ps.map fun p => lowI p b) = ps.map fun p => frD (lowI p b) := by simp [frs]
  rw [evSs_cons]; simp! only []
  rw [evSs_cons]; simp! only [hz]
  rw [hm] at e ⊢
  rw [e]
  simp! only [evSs_cons, frD]
end Pv

set_option maxHeartbeats 4000000
namespace Pv
local macro_rules
  | `(tactic| simp! only [$ls,*] $[$loc:location]?) => `(tactic| simp -implicitDefEqProofs only [evS, evT, evE, evP, evPs, evV, evA, evAnd, evOr, evI, Pv.a0, Pv.a1, Pv.v0, Pv.v1, opd, slotOf, satOp, Pv.two, Pv.one, ob_s, ob_n, sc_int, sc_bl, sc_str, sc_non, bd_ok, bd_exc, thenE_ok, thenE_exc, thenT_ok, thenT_exc, thenA_ok, thenI_ok, fl_nx, fl_ret, fl_exc, fl_bk, fl_ct, fl_nil, evSs_nil, asBl, asInt, un_non, un_bl, un_int, un_str, un_tup, un_lst, un_obj, un_un, fz, fzs, isSc, isScs, isFz, isFzs, isOwn, isOwns, dNeg, dT, tgA, setAll, okS, res, at2, it_tup, it_lst, chnD, lItems, tmps, cpyLoc, cpyTmp, ixTmp, ioPos, wipeD, out_ret, out_nx, out_exc, outsOf, and_self, and_true, true_and, false_and, and_false, fzs_ints, Pv.sto1, Pv.sto2, ownItems, at2_0, at2_1, at3_0, at3_1, at3_2, at4_0, at4_1, at4_2, at4_3, ix_20, ix_21, ix_40, ix_41, ix_42, ix_43, List.length_map, isFzs, d2_add, d2_sub, d2_lt, d2_le, d2_gt, d2_ge, d2_eq, d2_ne, d2_eqs, d2_eqb, d2_isn_non, d2_isn_int, d2_isn_bl, d2_isn_str, d2_isn_tup, d2_isn_lst, d2_notn_non, d2_notn_int, d2_notn_bl, d2_notn_str, d2_notn_tup, d2_notn_lst, d2_mod, d2_fdiv, Int.reduceToNat, Int.reducePow, Int.reduceEq, Int.reduceLT, Int.reduceLE, Int.reduceNeg, Int.reduceMul, Int.reduceAdd, Int.reduceSub, cst0, cst1, cst2, cst3, cst4, cst5, cst6, cst7, cst8, cst9, cst10, cst11, cst12, go_some, go_nil, sq_nx, sq_ret, sq_exc, sq_bk, sq_ct, lq_nx, lq_ct, lq_bk, lq_ret, lq_exc, lcD_eq, lcR_some, Int.toNat_natCast, ne_eq, not_false_eq_true, not_true_eq_false, dF_gcd, dF_lenL, dF_lenT, dF_int, dF_intb, dF_abs, dF_min, dF_max, dI_ii, dI_ib, dI_is, dI_il, dI_it, dI_bi, dI_bb, dI_bs, dI_bl, dI_bt, dI_si, dI_sb, dI_ss, dI_sl, dI_st, dI_li, dI_lb, dI_ls, dI_ll, dI_lt, dI_ti, dI_tb, dI_ts, dI_tl, dI_tt, dI_ni, dI_nb, dI_ns, dI_nl, dI_nt, Option.map_some, List.length_cons, List.length_nil, List.getElem?_cons_zero, List.getElem?_cons_succ, List.getElem?_nil, List.set_cons_zero, List.set_cons_succ, List.set_nil, List.map_cons, List.map_nil, List.cons_append, List.nil_append, List.append_nil, List.replicate, List.getD_cons_zero, List.getD_cons_succ, List.contains_nil, List.contains_cons, Nat.reduceBEq, Bool.or_false, Bool.false_or, Bool.or_self, Bool.or_true, Bool.true_or, List.isEmpty_nil, List.isEmpty_cons, decide_true, decide_false, if_true, if_false, Bool.false_eq_true, Bool.not_true, Bool.not_false, Bool.and_true, Bool.true_and, Bool.and_self, Bool.and_false, Bool.false_and, reduceIte, Nat.zero_add, Nat.reduceAdd, Nat.reduceSub, Nat.reduceLT, Nat.reduceLeDiff, Nat.reduceEqDiff, decide_eq_true_eq, eq_self, Option.some.injEq, reduceCtorEq, Nat.lt_irrefl, $ls,*] $[$loc]?)
open PySem
def b_are_chances : Ss := .cons (.for_ (.nm 1) (.seqL (.var 0)) (.cons (.ite (.lnot (.call "is_fraction" F_is_fraction (.cons (.var 1) (.nil)))) (.cons (.ret (.con (.bl false))) (.nil)) (.nil)) (.nil))) (.cons (.asg (.nm 2) (.lc (.nm 1) (.seqL (.var 0)) (.nil) (.call "checked" F_checked (.cons (.var 1) (.cons (.con (.str "value")) (.nil)))) [1])) (.cons (.for_ (.nm 3) (.seqL (.var 2)) (.cons (.ite (.pk (.op2 .le (.ix (.var 3) (.con (.int 0))) (.con (.int 0)))) (.cons (.ret (.con (.bl false))) (.nil)) (.nil)) (.nil))) (.cons (.ret (.land (.cons (.op2 .le (.call "common_bottom" F_common_bottom (.cons (.var 2) (.nil))) (.glo "MOST_BOTTOM" (.int 100))) (.cons (.op2 .eq (.call "total" F_total (.cons (.var 2) (.nil))) (.glo "ONE" (.tup [.int 1, .int 1]))) (.nil))))) (.nil))))
def n_are_chances : Nat := 4
def m_are_chances : List D → Option Out := evFn 0 [false] n_are_chances b_are_chances
def F_are_chances : Fn := ⟨[false], m_are_chances⟩
theorem un_fr (p : Int × Int) : isUn (frD p) = false := rfl
theorem frAsk_fr (p : Int × Int) : frAsk (frD p) = true := rfl
theorem isFr_fr {p : Int × Int} (h : 1 ≤ p.2) : isFrD (frD p) = true := by simp [isFrD, frD, h]
theorem call_checked {p : Int × Int} {rs : List D} {A B : Arg} {nm : Str} (h1 : res rs A = frD p) (h2 : res rs B = .str nm) (hp : 1 ≤ p.2) : callD F_checked [A, B] rs = some (.ok (frD (lowI p.1 p.2)) rs) := call_v2 (by
  rw [h1, h2]
  show m_checked [frD p, .str nm] = _
  simp only [m_checked, frAsk_fr, if_true, isFr_fr hp]
  rfl) rfl
theorem lcm_100 {ps : List Int} {b : Int} (hb : 1 ≤ b) (hb2 : b ≤ 100) : lcmB (ps.map fun p => lowI p b) ∣ b.natAbs := lcm_bd _ 1 (by omega) (Nat.one_dvd _) fun p hp => by
  obtain ⟨x, _, rfl⟩ := List.mem_map.mp hp
  obtain ⟨g, hg, ea, eb, p1, c1⟩ := low_spec (a := x) hb
  exact Int.natAbs_dvd_natAbs.mpr ⟨g, by rw [Int.mul_comm]; exact eb⟩
theorem d2_one : d2 .eq (.tup [.int 1, .int 1]) (.tup [.int 1, .int 1]) = some (.bl true) := by rfl
/-- the shares as they are passed: of one bottom -/
theorem are_chances_ok {ps : List Int} {b : Int} (hb : 1 ≤ b) (hb2 : b ≤ 100) (h : ∀ p ∈ ps, 1 ≤ p) (hs : ps.sum = b) (hl : ps.length ≤ 1000) : m_are_chances [.lst false (ps.map fun p => frD (p, b))] = some (.ret (.bl true) []) := by
  have hz0 : fzs (ps.map fun p => frD (p, b)) = ps.map fun p => frD (p, b) := by
    have := fzs_frs (ps.map fun p => (p, b))
    simpa [frs, List.map_map, Function.comp_def] using this
  have hz1 : fzs (ps.map fun p => frD (lowI p b)) = ps.map fun p => frD (lowI p b) := by
    have := fzs_frs (ps.map fun p => lowI p b)
    simpa [frs, List.map_map, Function.comp_def] using this
  -- each is a fraction
  obtain ⟨rs', e, p⟩ := for_map (asg := tgA [] (.nm 1)) (body := evSs 0 [] (match b_are_chances with
    | .cons (.for_ _ _ b) _ => b
    | _ => .nil)) (fun p => frD (p, b)) ps (fun i rs => ∃ x, rs = [.lst false (ps.map fun p => frD (p, b)), x, .un, .un]) [.lst false (ps.map fun p => frD (p, b)), .un, .un, .un] ⟨_, rfl⟩ fun j x rs hj ⟨y, hy⟩ => by
    subst hy
    have ec := call_fr (d := frD (x, b)) (rs := [.lst false (ps.map fun p => frD (p, b)), frD (x, b), .un, .un]) (A := .loc 1) rfl (frAsk_fr _)
    rw [isFr_fr (p := (x, b)) hb] at ec
    refine turnP_of rfl ?_
    unfold b_are_chances
    simp! only [evSs_cons, ec, un_fr, nxP_nx]
    exact ⟨_, rfl⟩
  obtain ⟨y, rfl⟩ := p
  -- in lowest terms
  have e2 := lc_map (asg := tgA [] (.nm 1)) (own := [1]) (cd := evAnd .nil) (el := evE (.call "checked" F_checked (.cons (.var 1) (.cons (.con (.str "value")) (.nil)))) false) (fun p => frD (p, b)) (fun p => frD (lowI p b)) ps [.lst false (ps.map fun p => frD (p, b)), .un, .un, .un] (by omega) fun x acc hx ha => by
    have ec := call_checked (p := (x, b)) (nm := "value") (rs := [.lst false (ps.map fun p => frD (p, b)), frD (x, b), .un, .un]) (A := .loc 1) (B := .tmp (.str "value")) rfl rfl hb
    rw [lcP_eq]
    unfold frD at ec ⊢
    simp! only [ec, wipeD]
    first | exact ha | exact ⟨ha, by first | trivial | rfl⟩ | exact ⟨ha, by first | trivial | rfl, by first | trivial | rfl⟩
  -- above 0
  obtain ⟨rs', e3, p⟩ := for_map (asg := tgA [] (.nm 3)) (body := evSs 0 [] (match b_are_chances with
    | .cons _ (.cons _ (.cons (.for_ _ _ b) _)) => b
    | _ => .nil)) (fun p => frD (lowI p b)) ps (fun i rs => ∃ x, rs = [.lst false (ps.map fun p => frD (p, b)), .un, .lst false (ps.map fun p => frD (lowI p b)), x]) [.lst false (ps.map fun p => frD (p, b)), .un, .lst false (ps.map fun p => frD (lowI p b)), .un] ⟨_, rfl⟩ fun j x rs hj ⟨y, hy⟩ => by
    subst hy
    have hx := h x (List.mem_of_getElem? hj)
    have hpos : ¬ (lowI x b).1 ≤ 0 := by
      obtain ⟨g, hg, ea, eb, p1, c1⟩ := low_spec (a := x) hb
      intro z
      have : g * (lowI x b).1 ≤ 0 := Int.mul_nonpos_of_nonneg_of_nonpos (by omega) z
      omega
    refine turnP_of rfl ?_
    unfold b_are_chances frD
    simp! only [evSs_cons, hpos, nxP_nx]
    exact ⟨_, rfl⟩
  obtain ⟨y3, rfl⟩ := p
  have ecb : ∀ rs A, res rs A = .lst false (ps.map fun p => frD (lowI p b)) → callD F_common_bottom [A] rs = some (.ok (.int (lcmB (ps.map fun p => lowI p b) : Nat)) rs) := fun rs A h1 => call_v1 (by
    rw [h1]
    have := common_bottom_ok (l := ps.map fun p => lowI p b) (B := b.natAbs) (by omega) (by omega) fun q hq => by
      obtain ⟨x, _, rfl⟩ := List.mem_map.mp hq
      obtain ⟨g, hg, ea, eb, p1, c1⟩ := low_spec (a := x) hb
      exact ⟨p1, Int.natAbs_dvd_natAbs.mpr ⟨g, by rw [Int.mul_comm]; exact eb⟩⟩
    simpa [frs, List.map_map, Function.comp_def] using this) rfl
  have etb : ∀ rs A, res rs A = .lst false (ps.map fun p => frD (lowI p b)) → callD F_total [A] rs = some (.ok (.tup [.int 1, .int 1]) rs) := fun rs A h1 => call_v1 (by
    rw [h1]
    have := total_ok (ps := ps) (b := b) hb (by omega) (fun p hp => by have := h p hp; omega) (by omega)
    rw [hs, low_self hb] at this
    simpa [frs, List.map_map, Function.comp_def, frD] using this) rfl
  have hle : (((lcmB (ps.map fun p => lowI p b) : Nat) : Int) ≤ 100) := by
    have := Nat.le_of_dvd (by omega) (lcm_100 (ps := ps) hb hb2)
    omega
  unfold m_are_chances evFn b_are_chances n_are_chances
  unfold b_are_chances at e e3
  dsimp only at e e3
  simp! only [] at e2
  rw [evSs_cons]; simp! only [hz0]
  rw [e]
  simp! only []
  rw [evSs_cons]; simp! only [hz0, lcD, wipeD]
  rw [e2]
  simp! only []
  rw [evSs_cons]; simp! only [hz1]
  rw [e3]
  simp! only []
  have c1 := ecb [.lst false (ps.map fun p => frD (p, b)), .un, .lst false (ps.map fun p => frD (lowI p b)), y3] (.loc 2) (by rw [res_loc rfl]; simp only [fz, hz1])
  have c2 := etb [.lst false (ps.map fun p => frD (p, b)), .un, .lst false (ps.map fun p => frD (lowI p b)), y3] (.loc 2) (by rw [res_loc rfl]; simp only [fz, hz1])
  rw [evSs_cons]; simp! only [c1, c2, hle, d2_one]
end Pv

set_option maxHeartbeats 4000000
namespace Pv
local macro_rules
  | `(tactic| simp! only [$ls,*] $[$loc:location]?) => `(tactic| simp -implicitDefEqProofs only [evS, evT, evE, evP, evPs, evV, evA, evAnd, evOr, evI, Pv.a0, Pv.a1, Pv.v0, Pv.v1, opd, slotOf, satOp, Pv.two, Pv.one, ob_s, ob_n, sc_int, sc_bl, sc_str, sc_non, bd_ok, bd_exc, thenE_ok, thenE_exc, thenT_ok, thenT_exc, thenA_ok, thenI_ok, fl_nx, fl_ret, fl_exc, fl_bk, fl_ct, fl_nil, evSs_nil, asBl, asInt, un_non, un_bl, un_int, un_str, un_tup, un_lst, un_obj, un_un, fz, fzs, isSc, isScs, isFz, isFzs, isOwn, isOwns, dNeg, dT, tgA, setAll, okS, res, at2, it_tup, it_lst, chnD, lItems, tmps, cpyLoc, cpyTmp, ixTmp, ioPos, wipeD, out_ret, out_nx, out_exc, outsOf, and_self, and_true, true_and, false_and, and_false, fzs_ints, Pv.sto1, Pv.sto2, ownItems, at2_0, at2_1, at3_0, at3_1, at3_2, at4_0, at4_1, at4_2, at4_3, ix_20, ix_21, ix_40, ix_41, ix_42, ix_43, List.length_map, isFzs, d2_add, d2_sub, d2_lt, d2_le, d2_gt, d2_ge, d2_eq, d2_ne, d2_eqs, d2_eqb, d2_isn_non, d2_isn_int, d2_isn_bl, d2_isn_str, d2_isn_tup, d2_isn_lst, d2_notn_non, d2_notn_int, d2_notn_bl, d2_notn_str, d2_notn_tup, d2_notn_lst, d2_mod, d2_fdiv, Int.reduceToNat, Int.reducePow, Int.reduceEq, Int.reduceLT, Int.reduceLE, Int.reduceNeg, Int.reduceMul, Int.reduceAdd, Int.reduceSub, cst0, cst1, cst2, cst3, cst4, cst5, cst6, cst7, cst8, cst9, cst10, cst11, cst12, go_some, go_nil, sq_nx, sq_ret, sq_exc, sq_bk, sq_ct, lq_nx, lq_ct, lq_bk, lq_ret, lq_exc, lcD_eq, lcR_some, Int.toNat_natCast, ne_eq, not_false_eq_true, not_true_eq_false, dF_gcd, dF_lenL, dF_lenT, dF_int, dF_intb, dF_abs, dF_min, dF_max, dI_ii, dI_ib, dI_is, dI_il, dI_it, dI_bi, dI_bb, dI_bs, dI_bl, dI_bt, dI_si, dI_sb, dI_ss, dI_sl, dI_st, dI_li, dI_lb, dI_ls, dI_ll, dI_lt, dI_ti, dI_tb, dI_ts, dI_tl, dI_tt, dI_ni, dI_nb, dI_ns, dI_nl, dI_nt, Option.map_some, List.length_cons, List.length_nil, List.getElem?_cons_zero, List.getElem?_cons_succ, List.getElem?_nil, List.set_cons_zero, List.set_cons_succ, List.set_nil, List.map_cons, List.map_nil, List.cons_append, List.nil_append, List.append_nil, List.replicate, List.getD_cons_zero, List.getD_cons_succ, List.contains_nil, List.contains_cons, Nat.reduceBEq, Bool.or_false, Bool.false_or, Bool.or_self, Bool.or_true, Bool.true_or, List.isEmpty_nil, List.isEmpty_cons, decide_true, decide_false, if_true, if_false, Bool.false_eq_true, Bool.not_true, Bool.not_false, Bool.and_true, Bool.true_and, Bool.and_self, Bool.and_false, Bool.false_and, reduceIte, Nat.zero_add, Nat.reduceAdd, Nat.reduceSub, Nat.reduceLT, Nat.reduceLeDiff, Nat.reduceEqDiff, decide_eq_true_eq, eq_self, Option.some.injEq, reduceCtorEq, Nat.lt_irrefl, $ls,*] $[$loc]?)
open PySem
def b_check_lottery : Ss := .cons (.ite (.lnot (.call "has_form" F_has_form (.cons (.var 0) (.nil)))) (.cons (.raise "InvalidBook" ["part", "at"] (.cons (.con (.str "form")) (.cons (.var 1) (.nil)))) (.nil)) (.nil)) (.cons (.ite (.lnot (.call "are_chances" F_are_chances (.cons (.lc (.nm 3) (.seqL (.var 0)) (.nil) (.ix (.var 3) (.con (.int 0))) [3]) (.nil)))) (.cons (.raise "InvalidBook" ["part", "at"] (.cons (.con (.str "chances")) (.cons (.var 1) (.nil)))) (.nil)) (.nil)) (.cons (.for_ (.nm 3) (.seqL (.var 0)) (.cons (.ite (.lnot (.call "is_outcome" F_is_outcome (.cons (.ix (.var 3) (.con (.int 1))) (.cons (.pk (.fnc .len (.cons (.var 2) (.nil)))) (.nil))))) (.cons (.raise "InvalidBook" ["part", "at"] (.cons (.con (.str "outcomes")) (.cons (.var 1) (.nil)))) (.nil)) (.nil)) (.nil))) (.cons (.asg (.nm 4) (.lc (.nm 3) (.seqL (.var 0)) (.nil) (.tup (.cons (.tupc (.ix (.var 3) (.con (.int 1)))) (.cons (.call "checked" F_checked (.cons (.ix (.var 3) (.con (.int 0))) (.cons (.con (.str "value")) (.nil)))) (.nil)))) [3])) (.cons (.ite (.op2 .lt (.lenset (.tp [5, 6]) (.seqL (.var 4)) (.nil) (.var 5) [5, 6]) (.pk (.fnc .len (.cons (.var 4) (.nil))))) (.cons (.raise "InvalidBook" ["part", "at"] (.cons (.con (.str "likeness")) (.cons (.var 1) (.nil)))) (.nil)) (.nil)) (.cons (.for_ (.tp [5, 6]) (.seqL (.var 4)) (.cons (.ite (.op2 .ne (.call "weight_of" F_weight_of (.cons (.var 2) (.cons (.var 5) (.nil)))) (.pk (.op2 .add (.ix (.var 2) (.var 1)) (.con (.int 1))))) (.cons (.raise "InvalidBook" ["part", "at"] (.cons (.con (.str "balance")) (.cons (.var 1) (.nil)))) (.nil)) (.nil)) (.nil))) (.cons (.ret (.lc (.tp [5, 6]) (.seqL (.sorted (.var 4))) (.nil) (.tup (.cons (.var 6) (.cons (.var 5) (.nil)))) [5, 6])) (.nil)))))))
def n_check_lottery : Nat := 7
def m_check_lottery : List D → Option Out := evFn 0 [false, false, false] n_check_lottery b_check_lottery
def F_check_lottery : Fn := ⟨[false, false, false], m_check_lottery⟩
/-- an entry as it is passed: its piece of the bottom, its outcome -/
def inD (b : Int) (e : Int × List Int) : D := .tup [frD (e.1, b), .lst false (e.2.map D.int)]
/-- an entry as the program sorts it -/
def midD (b : Int) (e : Int × List Int) : D := .tup [.tup (e.2.map D.int), frD (lowI e.1 b)]
/-- an entry as the program keeps it -/
def outD (b : Int) (e : Int × List Int) : D := .tup [frD (lowI e.1 b), .tup (e.2.map D.int)]
/-- what a lottery must keep -/
structure LotOk (sz : List Int) (k : Nat) (b : Int) (es : List (Int × List Int)) : Prop where
  b1 : 1 ≤ b
  b2 : b ≤ 100
  ne : 1 ≤ es.length
  few : es.length ≤ 4
  pos : ∀ e ∈ es, 1 ≤ e.1
  sum : (es.map (·.1)).sum = b
  len : ∀ e ∈ es, e.2.length = sz.length
  rng : ∀ e ∈ es, ∀ n ∈ e.2, 0 ≤ n ∧ n ≤ 20
  nd : (es.map (·.2)).Nodup
  bal : ∀ e ∈ es, ∀ z, sz[k]? = some z → dot sz e.2 = z + 1
def leE (b : Int) (x y : Int × List Int) : Bool := PySem.W.dataLe false pdOf (midD b x) (midD b y)
def sortE (b : Int) (es : List (Int × List Int)) : List (Int × List Int) := es.mergeSort (leE b)
theorem sortE_perm (b : Int) (es : List (Int × List Int)) : (sortE b es).Perm es := List.mergeSort_perm _ _
theorem sortD_mid (b : Int) (es : List (Int × List Int)) : sortD (es.map (midD b)) = (sortE b es).map (midD b) := by
  unfold sortD sortE
  exact (List.map_mergeSort (r := leE b) (s := PySem.W.dataLe false pdOf) (f := midD b) (l := es) fun _ _ _ _ => rfl).symm
theorem fzs_mapF {A : Type} (f : A → D) (h : ∀ a, fz (f a) = f a) : ∀ l : List A, fzs (l.map f) = l.map f
  | [] => rfl
  | a :: l => by simp only [List.map_cons, fzs, h a, fzs_mapF f h l]
theorem fz_int (l : List Int) : fzs (l.map D.int) = l.map D.int := fzs_ints l
theorem fz_inD (b : Int) (e : Int × List Int) : fz (inD b e) = inD b e := by simp only [inD, fz, fzs, frD, fzs_ints]
theorem fz_midD (b : Int) (e : Int × List Int) : fz (midD b e) = midD b e := by simp only [midD, fz, fzs, frD, fzs_ints]
theorem fz_outD (b : Int) (e : Int × List Int) : fz (outD b e) = outD b e := by simp only [outD, fz, fzs, frD, fzs_ints]
theorem toPd_ints : ∀ l : List Int, toPds (l.map D.int) = some (l.map PyData.int)
  | [] => rfl
  | i :: l => by simp only [List.map_cons, toPds, toPd, toPd_ints l]
def midP (b : Int) (e : Int × List Int) : PyData := .tuple [.tuple (e.2.map PyData.int), .tuple [.int (lowI e.1 b).1, .int (lowI e.1 b).2]]
theorem toPd_mid (b : Int) (e : Int × List Int) : toPd (midD b e) = some (midP b e) := by
  simp only [midD, frD, midP, toPd, toPds, toPd_ints, Option.map_some]
theorem toPds_mid (b : Int) : ∀ es : List (Int × List Int), toPds (es.map (midD b)) = some (es.map (midP b))
  | [] => rfl
  | e :: es => by simp only [List.map_cons, toPds, toPd_mid, toPds_mid b es]
theorem sortB_mid (b : Int) (es : List (Int × List Int)) : sortB (es.map (midP b)) = true := by
  have ha : alikeB (es.map (midP b)) = true := by
    unfold alikeB
    simp only [List.all_eq_true, List.mem_map]
    rintro p ⟨x, _, rfl⟩ q ⟨y, _, rfl⟩
    simp only [midP, PySem.W.alike, PySem.W.alikeAll, PySem.W.alike_ints, Bool.and_self]
  have hd : (es.map (midP b)).all (fun p => decide (p.depth ≤ 50)) = true := by
    simp only [List.all_eq_true, List.mem_map]
    rintro p ⟨x, _, rfl⟩
    simp [midP, PyData.depth, PyData.depthAll, PySem.W.depth_ints]
  have h1 : (es.map (midP b)).all isTup1 = true := by
    simp only [List.all_eq_true, List.mem_map]
    rintro p ⟨x, _, rfl⟩
    rfl
  unfold sortB
  rw [ha, hd, h1]; rfl
section
variable {sz : List Int} {k : Nat} {b : Int} {es : List (Int × List Int)} {rs : List D} {A B : Arg}
theorem call_form (h : LotOk sz k b es) (h1 : res rs A = .lst false (es.map (inD b))) : callD F_has_form [A] rs = some (.ok (.bl true) rs) := call_v1 (by
  rw [h1]
  have := has_form_ok (xs := es.map fun e => (frD (e.1, b), D.lst false (e.2.map D.int))) (by rw [List.length_map]; exact h.ne) (by rw [List.length_map]; exact h.few) fun p hp => by
    obtain ⟨e, _, rfl⟩ := List.mem_map.mp hp
    exact ⟨rfl, by simp only [isFz, isFzs_ints, Bool.not_false, Bool.and_self]⟩
  rw [List.map_map] at this
  exact this) rfl
theorem call_chances (h : LotOk sz k b es) (h1 : res rs A = .lst false (es.map fun e => frD (e.1, b))) : callD F_are_chances [A] rs = some (.ok (.bl true) rs) := call_v1 (by
  rw [h1]
  have := are_chances_ok (ps := es.map (·.1)) (b := b) h.b1 h.b2 (fun p hp => by
    obtain ⟨e, he, rfl⟩ := List.mem_map.mp hp
    exact h.pos e he) h.sum (by rw [List.length_map]; have := h.few; omega)
  rw [List.map_map] at this
  exact this) rfl
theorem call_outcome {e : Int × List Int} (h : LotOk sz k b es) (he : e ∈ es) (h1 : res rs A = .lst false (e.2.map D.int)) (h2 : res rs B = .int sz.length) : callD F_is_outcome [A, B] rs = some (.ok (.bl true) rs) := call_v2 (by
  rw [h1, h2, ← h.len e he]
  exact is_outcome_ok (h.rng e he)) rfl
theorem call_weight {e : Int × List Int} (h : LotOk sz k b es) (hs : ∀ a ∈ sz, 1 ≤ a ∧ a ≤ 12) (hl : sz.length ≤ 6) (he : e ∈ es) (h1 : res rs A = .lst false (sz.map D.int)) (h2 : res rs B = .tup (e.2.map D.int)) : callD F_weight_of [A, B] rs = some (.ok (.int (dot sz e.2)) rs) := call_v2 (by
  rw [h1, h2]
  exact weight_of_ok (fun a ha => by have := hs a ha; omega) (fun a ha => by have := h.rng e he a ha; omega) (by omega)) rfl
end
theorem lsL_nodup {asg : D → List D → Option (List D)} {own : List Nat} {cd el : List D → Option (Res D)} (enc : Int × List Int → D) (rs : List D) : ∀ (es : List (Int × List Int)) (acc : List (List Int)), (acc ++ es.map (·.2)).Nodup → acc.length + es.length < 63 →
    (∀ e ∈ es, ∃ rs1 rs2 y rs3, asg (enc e) rs = some rs1 ∧ cd rs1 = some (.ok (.bl true) rs2) ∧ el rs2 = some (.ok y rs3) ∧ keyD y = some e.2 ∧ wipeD rs3 own = rs) → lsL asg own cd el (es.map enc) rs acc = some (acc ++ es.map (·.2), rs)
  | [], acc, _, _, _ => by simp [lsL]
  | e :: es, acc, nd, hl, st => by
    obtain ⟨rs1, rs2, y, rs3, h1, h2, h3, h4, h5⟩ := st e List.mem_cons_self
    simp only [List.map_cons, lsL, h1, h2, h3, h4, h5]
    have hn : acc.contains e.2 = false := by
      rw [List.contains_eq_mem]
      simp only [decide_eq_false_iff_not]
      intro z
      have := List.nodup_append.mp nd
      exact this.2.2 _ z _ (by simp) rfl
    have hl' : acc.length + 1 < 64 := by simp only [List.length_cons] at hl; omega
    rw [if_pos hl', hn]
    simp only [Bool.false_eq_true, if_false]
    rw [lsL_nodup enc rs es (acc ++ [e.2]) (by simpa using nd) (by simp only [List.length_cons] at hl; simp; omega) fun x hx => st x (List.mem_cons_of_mem _ hx)]
    simp
theorem keyD_ints (l : List Int) : keyD (.tup (l.map D.int)) = some l := by
  show intsD (l.map D.int) = some l
  induction l with
  | nil => rfl
  | cons i l ih => simp only [List.map_cons, intsD, ih, Option.map_some]
theorem check_lottery_ok {sz : List Int} {k : Nat} {b : Int} {es : List (Int × List Int)} (h : LotOk sz k b es) (hk : k < sz.length) (hs : ∀ a ∈ sz, 1 ≤ a ∧ a ≤ 12) (hl : sz.length ≤ 6) :
    m_check_lottery [.lst false (es.map (inD b)), .int k, .lst false (sz.map D.int)] = some (.ret (.lst true ((sortE b es).map (outD b))) []) := by
  have hz0 := fzs_mapF (inD b) (fz_inD b) es
  have hz1 := fzs_mapF (midD b) (fz_midD b) es
  have hz2 := fzs_mapF (midD b) (fz_midD b) (sortE b es)
  have c1 := call_form (rs := [.lst false (es.map (inD b)), .int k, .lst false (sz.map D.int), .un, .un, .un, .un]) (A := .loc 0) h (by rw [res_loc rfl]; simp only [fz, hz0])
  have few := h.few
  -- the chances
  have e1 := lc_map (asg := tgA [] (.nm 3)) (own := [3]) (cd := evAnd .nil) (el := evE (.ix (.var 3) (.con (.int 0))) false) (inD b) (fun e => frD (e.1, b)) es [.lst false (es.map (inD b)), .int k, .lst false (sz.map D.int), .un, .un, .un, .un] (by omega) fun x acc hx ha => by
    rw [lcP_eq]; unfold inD frD
    simp! only [ixLoc, wipeD, isFzs_ints]
    first | exact ha | exact ⟨ha, by first | trivial | rfl⟩ | exact ⟨ha, by first | trivial | rfl, by first | trivial | rfl⟩
  have hzf : fzs (es.map fun e => frD (e.1, b)) = es.map fun e => frD (e.1, b) := fzs_mapF _ (fun e => rfl) es
  have c2 := call_chances (rs := [.lst false (es.map (inD b)), .int k, .lst false (sz.map D.int), .un, .un, .un, .un]) (A := .tmp (.lst true (es.map fun e => frD (e.1, b)))) h (by simp only [res, fz, hzf])
  -- the outcomes
  obtain ⟨rs', e2, p⟩ := for_map (asg := tgA [] (.nm 3)) (body := evSs 0 [] (match b_check_lottery with
    | .cons _ (.cons _ (.cons (.for_ _ _ b) _)) => b
    | _ => .nil)) (inD b) es (fun _ rs => ∃ x, rs = [.lst false (es.map (inD b)), .int k, .lst false (sz.map D.int), x, .un, .un, .un]) [.lst false (es.map (inD b)), .int k, .lst false (sz.map D.int), .un, .un, .un, .un] ⟨_, rfl⟩ fun j x rs hj ⟨y, hy⟩ => by
    subst hy
    have hm := List.mem_of_getElem? hj
    have cc := call_outcome (rs := [.lst false (es.map (inD b)), .int k, .lst false (sz.map D.int), .tup [.tup [.int x.1, .int b], .lst false (x.2.map D.int)], .un, .un, .un]) (A := .tmp (.lst false (x.2.map D.int))) (B := .tmp (.int sz.length)) h hm (by simp only [res, fz, fzs_ints]) rfl
    refine turnP_of rfl ?_
    unfold b_check_lottery inD frD
    unfold inD frD at cc
    simp! only [evSs_cons, ixLoc, isFzs_ints, cc, nxP_nx]
    exact ⟨_, rfl⟩
  obtain ⟨y, rfl⟩ := p
  -- the entries
  have e3 := lc_map (asg := tgA [] (.nm 3)) (own := [3]) (cd := evAnd .nil) (el := evE (.tup (.cons (.tupc (.ix (.var 3) (.con (.int 1)))) (.cons (.call "checked" F_checked (.cons (.ix (.var 3) (.con (.int 0))) (.cons (.con (.str "value")) (.nil)))) (.nil)))) false) (inD b) (midD b) es [.lst false (es.map (inD b)), .int k, .lst false (sz.map D.int), .un, .un, .un, .un] (by omega) fun x acc hx ha => by
    have cc := call_checked (p := (x.1, b)) (nm := "value") (rs := [.lst false (es.map (inD b)), .int k, .lst false (sz.map D.int), .tup [.tup [.int x.1, .int b], .lst false (x.2.map D.int)], .un, .un, .un]) (A := .tmp (.tup [.int x.1, .int b])) (B := .tmp (.str "value")) rfl rfl h.b1
    rw [lcP_eq]; unfold inD frD
    unfold inD frD at cc
    simp! only [ixLoc, wipeD, isFzs_ints, tupTmp, lstItems, cc, midD, frD]
    first | exact ha | exact ⟨ha, by first | trivial | rfl⟩ | exact ⟨ha, by first | trivial | rfl, by first | trivial | rfl⟩
  have hle : es.length < 63 := by omega
  have e4 := lsL_nodup (asg := tgA [] (.tp [5, 6])) (own := [5, 6]) (cd := evAnd .nil) (el := evE (.var 5) false) (midD b) [.lst false (es.map (inD b)), .int k, .lst false (sz.map D.int), .un, .lst false (es.map (midD b)), .un, .un] es [] (by simpa using h.nd) (by simpa using hle) fun e he => ⟨[.lst false (es.map (inD b)), .int k, .lst false (sz.map D.int), .un, .lst false (es.map (midD b)), .tup (e.2.map D.int), frD (lowI e.1 b)], [.lst false (es.map (inD b)), .int k, .lst false (sz.map D.int), .un, .lst false (es.map (midD b)), .tup (e.2.map D.int), frD (lowI e.1 b)], .tup (e.2.map D.int), [.lst false (es.map (inD b)), .int k, .lst false (sz.map D.int), .un, .lst false (es.map (midD b)), .tup (e.2.map D.int), frD (lowI e.1 b)], rfl, rfl, by simp! only [], keyD_ints _, rfl⟩
  -- the balance
  obtain ⟨z, hz⟩ : ∃ z, sz[k]? = some z := ⟨_, List.getElem?_eq_getElem hk⟩
  have hzk : L2.atI (sz.map D.int) (k : Int) = some (.int z) := at_natI hz
  obtain ⟨rs', e5, p⟩ := for_map (asg := tgA [] (.tp [5, 6])) (body := evSs 0 [] (match b_check_lottery with
    | .cons _ (.cons _ (.cons _ (.cons _ (.cons _ (.cons (.for_ _ _ b) _))))) => b
    | _ => .nil)) (midD b) es (fun _ rs => ∃ x y, rs = [.lst false (es.map (inD b)), .int k, .lst false (sz.map D.int), .un, .lst false (es.map (midD b)), x, y]) [.lst false (es.map (inD b)), .int k, .lst false (sz.map D.int), .un, .lst false (es.map (midD b)), .un, .un] ⟨_, _, rfl⟩ fun j x rs hj ⟨y, y2, hy⟩ => by
    subst hy
    have hm := List.mem_of_getElem? hj
    have cc := call_weight (rs := [.lst false (es.map (inD b)), .int k, .lst false (sz.map D.int), .un, .lst false (es.map (midD b)), .tup (x.2.map D.int), frD (lowI x.1 b)]) (A := .loc 2) (B := .loc 5) h hs hl hm (by rw [res_loc rfl]; simp only [fz, fzs_ints]) (by rw [res_loc rfl]; simp only [fz, fzs_ints])
    have hbal := h.bal x hm z hz
    refine turnP_of rfl ?_
    unfold b_check_lottery
    simp! only [evSs_cons, cc, hzk, hbal, d2_nee, nxP_nx]
    exact ⟨_, _, rfl⟩
  obtain ⟨y5, y6, rfl⟩ := p
  have e6 := lc_map (asg := tgA [] (.tp [5, 6])) (own := [5, 6]) (cd := evAnd .nil) (el := evE (.tup (.cons (.var 6) (.cons (.var 5) (.nil)))) false) (midD b) (outD b) (sortE b es) [.lst false (es.map (inD b)), .int k, .lst false (sz.map D.int), .un, .lst false (es.map (midD b)), .un, .un] (by rw [(sortE_perm b es).length_eq]; omega) fun x acc hx ha => by
    rw [lcP_eq]; unfold midD frD
    simp! only [wipeD, outD, frD]
    first | exact ha | exact ⟨ha, by first | trivial | rfl⟩ | exact ⟨ha, by first | trivial | rfl, by first | trivial | rfl⟩
  unfold m_check_lottery evFn b_check_lottery n_check_lottery
  unfold b_check_lottery at e2 e5
  dsimp only at e2 e5
  simp! only [] at e1
  simp! only [] at e3
  simp! only [] at e4
  simp! only [] at e6
  rw [evSs_cons]; simp! only [c1]
  rw [evSs_cons]; simp! only [hz0, lcD, wipeD]
  rw [e1]
  simp! only [c2]
  rw [evSs_cons]; simp! only [hz0]
  rw [e2]
  simp! only []
  rw [evSs_cons]; simp! only [hz0, lcD, wipeD]
  rw [e3]
  simp! only []
  rw [evSs_cons]; simp! only [hz1, lsD, wipeD]
  rw [e4]
  have hnl : ¬ ((es.length : Int) < (es.length : Int)) := by omega
  simp! only [List.nil_append, hz1, hnl]
  rw [evSs_cons]; simp! only [hz1]
  rw [e5]
  simp! only []
  have hsb := sortB_mid b es
  have hls : es.length ≤ 1000 := by omega
  rw [evSs_cons]; simp! only [lcD, wipeD, sortTmp, hz1, lstItems, toPds_mid, hsb, sortD_mid, hls, hz2]
  rw [e6]
  simp! only []
end Pv

set_option maxHeartbeats 4000000
namespace Pv
local macro_rules
  | `(tactic| simp! only [$ls,*] $[$loc:location]?) => `(tactic| simp -implicitDefEqProofs only [evS, evT, evE, evP, evPs, evV, evA, evAnd, evOr, evI, Pv.a0, Pv.a1, Pv.v0, Pv.v1, opd, slotOf, satOp, Pv.two, Pv.one, ob_s, ob_n, sc_int, sc_bl, sc_str, sc_non, bd_ok, bd_exc, thenE_ok, thenE_exc, thenT_ok, thenT_exc, thenA_ok, thenI_ok, fl_nx, fl_ret, fl_exc, fl_bk, fl_ct, fl_nil, evSs_nil, asBl, asInt, un_non, un_bl, un_int, un_str, un_tup, un_lst, un_obj, un_un, fz, fzs, isSc, isScs, isFz, isFzs, isOwn, isOwns, dNeg, dT, tgA, setAll, okS, res, at2, it_tup, it_lst, chnD, lItems, tmps, cpyLoc, cpyTmp, ixTmp, ioPos, wipeD, out_ret, out_nx, out_exc, outsOf, and_self, and_true, true_and, false_and, and_false, fzs_ints, Pv.sto1, Pv.sto2, ownItems, at2_0, at2_1, at3_0, at3_1, at3_2, at4_0, at4_1, at4_2, at4_3, ix_20, ix_21, ix_40, ix_41, ix_42, ix_43, List.length_map, isFzs, d2_add, d2_sub, d2_lt, d2_le, d2_gt, d2_ge, d2_eq, d2_ne, d2_eqs, d2_eqb, d2_isn_non, d2_isn_int, d2_isn_bl, d2_isn_str, d2_isn_tup, d2_isn_lst, d2_notn_non, d2_notn_int, d2_notn_bl, d2_notn_str, d2_notn_tup, d2_notn_lst, d2_mod, d2_fdiv, Int.reduceToNat, Int.reducePow, Int.reduceEq, Int.reduceLT, Int.reduceLE, Int.reduceNeg, Int.reduceMul, Int.reduceAdd, Int.reduceSub, cst0, cst1, cst2, cst3, cst4, cst5, cst6, cst7, cst8, cst9, cst10, cst11, cst12, go_some, go_nil, sq_nx, sq_ret, sq_exc, sq_bk, sq_ct, lq_nx, lq_ct, lq_bk, lq_ret, lq_exc, lcD_eq, lcR_some, Int.toNat_natCast, ne_eq, not_false_eq_true, not_true_eq_false, dF_gcd, dF_lenL, dF_lenT, dF_int, dF_intb, dF_abs, dF_min, dF_max, dI_ii, dI_ib, dI_is, dI_il, dI_it, dI_bi, dI_bb, dI_bs, dI_bl, dI_bt, dI_si, dI_sb, dI_ss, dI_sl, dI_st, dI_li, dI_lb, dI_ls, dI_ll, dI_lt, dI_ti, dI_tb, dI_ts, dI_tl, dI_tt, dI_ni, dI_nb, dI_ns, dI_nl, dI_nt, Option.map_some, List.length_cons, List.length_nil, List.getElem?_cons_zero, List.getElem?_cons_succ, List.getElem?_nil, List.set_cons_zero, List.set_cons_succ, List.set_nil, List.map_cons, List.map_nil, List.cons_append, List.nil_append, List.append_nil, List.replicate, List.getD_cons_zero, List.getD_cons_succ, List.contains_nil, List.contains_cons, Nat.reduceBEq, Bool.or_false, Bool.false_or, Bool.or_self, Bool.or_true, Bool.true_or, List.isEmpty_nil, List.isEmpty_cons, decide_true, decide_false, if_true, if_false, Bool.false_eq_true, Bool.not_true, Bool.not_false, Bool.and_true, Bool.true_and, Bool.and_self, Bool.and_false, Bool.false_and, reduceIte, Nat.zero_add, Nat.reduceAdd, Nat.reduceSub, Nat.reduceLT, Nat.reduceLeDiff, Nat.reduceEqDiff, decide_eq_true_eq, eq_self, Option.some.injEq, reduceCtorEq, Nat.lt_irrefl, $ls,*] $[$loc]?)
open PySem
def b_check_rules : Ss := .cons (.ite (.lor (.cons (.lnot (.pk (.isi (.var 0) "list"))) (.cons (.pk (.op2 .ne (.fnc .len (.cons (.var 0) (.nil))) (.fnc .len (.cons (.var 1) (.nil))))) (.nil)))) (.cons (.raise "InvalidBook" ["part", "at"] (.cons (.con (.str "rules")) (.cons (.pk (.neg (.con (.int 1)))) (.nil)))) (.nil)) (.nil)) (.cons (.asg (.nm 2) (.lst (.nil))) (.cons (.for_ (.tp [3, 4]) (.enm (.var 0)) (.cons (.app 2 (.call "check_lottery" F_check_lottery (.cons (.var 4) (.cons (.var 3) (.cons (.var 1) (.nil)))))) (.nil))) (.cons (.ret (.var 2)) (.nil))))
def n_check_rules : Nat := 5
def m_check_rules : List D → Option Out := evFn 0 [false, false] n_check_rules b_check_rules
def F_check_rules : Fn := ⟨[false, false], m_check_rules⟩
def b_Book___init__ : Ss := .cons (.stof 0 "Book" "sizes" (.call "check_weights" F_check_weights (.cons (.var 1) (.nil)))) (.cons (.stof 0 "Book" "lots" (.call "check_rules" F_check_rules (.cons (.var 2) (.cons (.fld 0 "Book" "sizes") (.nil))))) (.nil))
def n_Book___init__ : Nat := 3
def m_Book___init__ : List D → Option Out := evFn 0 [true, false, false] n_Book___init__ b_Book___init__
def F_Book___init__ : Fn := ⟨[true, false, false], m_Book___init__⟩
/-- a lottery of a book: its bottom, its entries -/
abbrev Lot := Int × List (Int × List Int)
def lotIn (l : Lot) : D := .lst false (l.2.map (inD l.1))
def lotOut (l : Lot) : D := .lst true ((sortE l.1 l.2).map (outD l.1))
def lotFz (l : Lot) : D := .lst false ((sortE l.1 l.2).map (outD l.1))
theorem fz_lotIn (l : Lot) : fz (lotIn l) = lotIn l := by simp only [lotIn, fz, fzs_mapF _ (fz_inD _)]
theorem fz_lotOut (l : Lot) : fz (lotOut l) = lotFz l := by simp only [lotOut, lotFz, fz, fzs_mapF _ (fz_outD _)]
theorem fz_lotFz (l : Lot) : fz (lotFz l) = lotFz l := by simp only [lotFz, fz, fzs_mapF _ (fz_outD _)]
theorem un_lotIn (l : Lot) : isUn (lotIn l) = false := rfl
theorem fzs_mapG {A : Type} (f g : A → D) (h : ∀ a, fz (f a) = g a) : ∀ l : List A, fzs (l.map f) = l.map g
  | [] => rfl
  | a :: l => by simp only [List.map_cons, fzs, h a, fzs_mapG f g h l]
theorem enumD_map {A : Type} (f : A → D) : ∀ (xs : List A) (k : Nat), enumD k (xs.map f) = (xs.zipIdx k).map fun p => .tup [.int (p.2 : Nat), f p.1]
  | [], _ => rfl
  | n :: ns, k => by simp only [List.map_cons, enumD, List.zipIdx_cons, enumD_map f ns (k + 1)]
theorem zi_get {A : Type} {xs : List A} {j : Nat} {x : A × Nat} (h : (xs.zipIdx 0)[j]? = some x) : x.2 = j ∧ xs[j]? = some x.1 := by
  rw [List.getElem?_zipIdx] at h
  cases q : xs[j]? with
  | none => rw [q] at h; cases h
  | some y => rw [q] at h; cases h; exact ⟨by simp, rfl⟩
theorem take_map_succ {A B : Type} (f : A → B) {xs : List A} {j : Nat} {x : A} (h : xs[j]? = some x) : (xs.take (j + 1)).map f = (xs.take j).map f ++ [f x] := by
  rw [List.take_succ, h]; simp
/-- the sizes and the lotteries of a right book -/
structure BkOk (sz : List Int) (ls : List Lot) : Prop where
  s1 : 1 ≤ sz.length
  s6 : sz.length ≤ 6
  sb : ∀ z ∈ sz, 1 ≤ z ∧ z ≤ 12
  ll : ls.length = sz.length
  lot : ∀ k l, ls[k]? = some l → LotOk sz k l.1 l.2
theorem call_lottery {sz : List Int} {ls : List Lot} {k : Nat} {l : Lot} {rs : List D} {A B C : Arg} (h : BkOk sz ls) (hk : ls[k]? = some l) (h1 : res rs A = lotIn l) (h2 : res rs B = .int (k : Nat)) (h3 : res rs C = .lst false (sz.map D.int)) : callD F_check_lottery [A, B, C] rs = some (.ok (lotOut l) rs) := call_v3 (by
  rw [h1, h2, h3]
  exact check_lottery_ok (h.lot k l hk) (by have := (List.getElem?_eq_some_iff.mp hk).1; have := h.ll; omega) h.sb h.s6) (by
  show isOwn (.lst true _) = true
  simp only [isOwn, Bool.true_and]
  suffices hh : ∀ es : List (Int × List Int), isOwns (es.map (outD l.1)) = true from hh _
  intro es
  induction es with
  | nil => rfl
  | cons e es ih =>
    have hi : ∀ ns : List Int, isOwns (ns.map D.int) = true := fun ns => by
      induction ns with
      | nil => rfl
      | cons n ns ih => simp [isOwns, isOwn, ih]
    simp [isOwns, outD, isOwn, frD, ih, hi])
theorem check_rules_ok {sz : List Int} {ls : List Lot} (h : BkOk sz ls) : m_check_rules [.lst false (ls.map lotIn), .lst false (sz.map D.int)] = some (.ret (.lst true (ls.map lotOut)) []) := by
  have hz := fzs_mapF lotIn fz_lotIn ls
  have hl : ((ls.length : Nat) : Int) = ((sz.length : Nat) : Int) := by rw [h.ll]
  unfold m_check_rules; refine fn_go ?_; unfold b_check_rules n_check_rules
  rw [go_cons]; simp! only [hz, hl, d2_nee]
  rw [go_cons]; simp! only []
  rw [go_cons]; simp! only [enumD_map, hz]
  refine go_for (P := fun j rs => ∃ x y, rs = [.lst false (ls.map lotIn), .lst false (sz.map D.int), .lst true ((ls.take j).map lotOut), x, y]) ⟨_, _, rfl⟩ ?_ ?_
  · rintro j ⟨l, i⟩ rs hj ⟨x, y, rfl⟩
    obtain ⟨e1, e2⟩ := zi_get hj
    dsimp only at e1 e2
    subst e1
    refine ⟨_, rfl, ?_⟩
    have ec := call_lottery (rs := [.lst false (ls.map lotIn), .lst false (sz.map D.int), .lst true ((ls.take i).map lotOut), .int (i : Nat), lotIn l]) (A := .loc 4) (B := .loc 3) (C := .loc 1) h e2 (by rw [res_loc rfl, fz_lotIn]) (by rw [res_loc rfl]; rfl) (by rw [res_loc rfl]; simp only [fz, fzs_ints])
    have lb : i < 1000000 := by
      have := (List.getElem?_eq_some_iff.mp e2).1
      have := h.ll
      have := h.s6
      omega
    rw [go_cons]; simp! only [isOwnL, app1, un_lotIn, fz_lotIn, ec, List.length_take, show min i ls.length < 1000000 by omega]
    exact ⟨_, _, by rw [take_map_succ lotOut e2]⟩
  · rintro rs ⟨x, y, rfl⟩
    rw [List.length_zipIdx, List.take_length]
    simp! only []
    rw [go_cons]; simp! only []
/-- a book as it lies -/
def bkD (o : Bool) (sz : List Int) (ls : List Lot) : D := .obj o "Book" ["sizes", "lots"] [.lst false (sz.map D.int), .lst false (ls.map lotFz)]
theorem ne_sl : (Str.ofString "sizes" = Str.ofString "lots") = False := eq_false (by decide)
theorem ne_ls : (Str.ofString "lots" = Str.ofString "sizes") = False := eq_false (by decide)
theorem fzs_lotOut (ls : List Lot) : fzs (ls.map lotOut) = ls.map lotFz := fzs_mapG _ _ fz_lotOut ls
theorem call_rules {sz : List Int} {ls : List Lot} {rs : List D} {A B : Arg} (h : BkOk sz ls) (h1 : res rs A = .lst false (ls.map lotIn)) (h2 : res rs B = .lst false (sz.map D.int)) : callD F_check_rules [A, B] rs = some (.ok (.lst true (ls.map lotOut)) rs) := call_v2 (by
  rw [h1, h2]
  exact check_rules_ok h) (by
  simp only [isOwn, Bool.true_and]
  induction ls with
  | nil => rfl
  | cons l ls ih =>
    have hi : ∀ ns : List Int, isOwns (ns.map D.int) = true := fun ns => by
      induction ns with
      | nil => rfl
      | cons n ns ih => simp [isOwns, isOwn, ih]
    have hh : ∀ es : List (Int × List Int), isOwns (es.map (outD l.1)) = true := fun es => by
      induction es with
      | nil => rfl
      | cons e es ih => simp [isOwns, outD, isOwn, frD, ih, hi]
    have hr : ∀ ls : List Lot, isOwns (ls.map lotOut) = true := fun ls => by
      induction ls with
      | nil => rfl
      | cons l ls ih =>
        have hh : ∀ es : List (Int × List Int), isOwns (es.map (outD l.1)) = true := fun es => by
          induction es with
          | nil => rfl
          | cons e es ih => simp [isOwns, outD, isOwn, frD, ih, hi]
        simp [isOwns, lotOut, isOwn, ih, hh]
    exact hr _)
theorem isOwns_ints : ∀ ns : List Int, isOwns (ns.map D.int) = true
  | [] => rfl
  | n :: ns => by simp [isOwns, isOwn, isOwns_ints ns]
theorem call_weights {sz : List Int} {ls : List Lot} {rs : List D} {A : Arg} (h : BkOk sz ls) (h1 : res rs A = .lst false (sz.map D.int)) : callD F_check_weights [A] rs = some (.ok (.lst true (sz.map D.int)) rs) := call_v1 (by
  rw [h1]
  exact check_weights_ok h.s1 h.s6 h.sb) (by simp only [isOwn, isOwns_ints, Bool.and_self])
theorem Book_init_ok {sz : List Int} {ls : List Lot} (h : BkOk sz ls) : m_Book___init__ [.obj true "Book" [] [], .lst false (sz.map D.int), .lst false (ls.map lotIn)] = some (.ret .non [bkD true sz ls]) := by
  have hz := fzs_lotOut ls
  unfold m_Book___init__; refine fn_go ?_; unfold b_Book___init__ n_Book___init__
  have e1 := call_weights (rs := [.obj true "Book" [] [], .lst false (sz.map D.int), .lst false (ls.map lotIn)]) (A := .loc 1) h (by rw [res_loc rfl]; simp only [fz, fzs_ints])
  rw [go_cons]; simp! only [e1, stofD, putFD]
  have e2 := call_rules (rs := [.obj true "Book" ["sizes"] [.lst false (sz.map D.int)], .lst false (sz.map D.int), .lst false (ls.map lotIn)]) (A := .loc 2) (B := .tmp (.lst false (sz.map D.int))) h (by rw [res_loc rfl]; simp only [fz, fzs_mapF _ fz_lotIn]) (by simp only [res, fz, fzs_ints])
  rw [go_cons]; simp! only [fldD, fIx, isFzs_ints, e2, stofD, putFD, hz, ne_sl, bkD]
end Pv

set_option maxHeartbeats 2000000
namespace Pv
open PySem
theorem fzs_len : ∀ l : List D, (fzs l).length = l.length
  | [] => rfl
  | d :: l => by simp [fzs, fzs_len l]
theorem at_rng {A : Type} {n j : Nat} (f : Nat → A) (h : j < n) : L2.atI ((List.range n).map f) (j : Int) = some (f j) := by
  unfold L2.atI L2.ixN
  rw [List.length_map, List.length_range, if_pos (by omega), if_pos (by simpa using h)]
  simp [h]
theorem set_rng {A : Type} {n a : Nat} (f : Nat → A) (v : A) : ((List.range n).map f).set a v = (List.range n).map fun j => if j = a then v else f j := by
  apply List.ext_getElem?
  intro i
  rw [List.getElem?_set]
  simp only [List.length_map, List.length_range, List.getElem?_map]
  by_cases h : a = i
  · subst h
    by_cases hl : a < n
    · simp [hl]
    · simp [hl]
  · by_cases hl : i < n
    · simp [hl, h, Ne.symm h]
    · simp [hl, h, Ne.symm h]
theorem ixN_nat {n j : Nat} (h : j < n) : L2.ixN n (j : Int) = some j := by
  unfold L2.ixN
  rw [if_pos (by omega), if_pos (by simpa using h)]
  simp
/-! ### which weights can be balanced -/
def Can (ss : List Int) (t : Int) : Prop := ∃ ns : List Int, ns.length = ss.length ∧ (∀ n ∈ ns, 0 ≤ n) ∧ dot ss ns = t
noncomputable def canB (ss : List Int) (t : Int) : Bool := @decide (Can ss t) (Classical.propDecidable _)
theorem canB_iff {ss : List Int} {t : Int} : canB ss t = true ↔ Can ss t := by
  unfold canB; exact @decide_eq_true_iff _ (Classical.propDecidable _)
theorem dot_nn : ∀ {ss ns : List Int}, (∀ s ∈ ss, 1 ≤ s) → (∀ n ∈ ns, 0 ≤ n) → 0 ≤ dot ss ns
  | [], _, _, _ => by simp [dot]
  | _ :: _, [], _, _ => by simp [dot]
  | s :: ss, n :: ns, h1, h2 => by
    have a := h1 s List.mem_cons_self
    have b := h2 n List.mem_cons_self
    have c := dot_nn (fun x hx => h1 x (List.mem_cons_of_mem s hx)) fun x hx => h2 x (List.mem_cons_of_mem n hx)
    have := Int.mul_nonneg (show 0 ≤ s by omega) b
    simp only [dot]
    omega
theorem can_nil {t : Int} : Can [] t ↔ t = 0 := by
  constructor
  · rintro ⟨ns, h, _, e⟩
    cases ns with
    | nil => simpa [dot] using e.symm
    | cons => simp at h
  · rintro rfl
    exact ⟨[], rfl, by simp, by simp [dot]⟩
theorem can_cons {s t : Int} {ss : List Int} : Can (s :: ss) t ↔ ∃ n, 0 ≤ n ∧ Can ss (t - n * s) := by
  constructor
  · rintro ⟨ns, h, hn, e⟩
    cases ns with
    | nil => simp at h
    | cons n ns =>
      refine ⟨n, hn n List.mem_cons_self, ns, by simpa using h, fun x hx => hn x (List.mem_cons_of_mem n hx), ?_⟩
      simp only [dot] at e
      rw [Int.mul_comm n s]
      omega
  · rintro ⟨n, h0, ns, h, hn, e⟩
    refine ⟨n :: ns, by simp [h], ?_, ?_⟩
    · intro x hx
      rcases List.mem_cons.mp hx with rfl | hx
      · exact h0
      · exact hn x hx
    · simp only [dot]
      rw [Int.mul_comm s n]
      omega
theorem can_nn {t : Int} {ss : List Int} (hs : ∀ s ∈ ss, 1 ≤ s) (h : Can ss t) : 0 ≤ t := by
  obtain ⟨ns, _, hn, rfl⟩ := h
  exact dot_nn hs hn
theorem can_step {s t : Int} {ss : List Int} (hs : ∀ x ∈ s :: ss, 1 ≤ x) : Can (s :: ss) t ↔ Can ss t ∨ (s ≤ t ∧ Can (s :: ss) (t - s)) := by
  have s1 := hs s List.mem_cons_self
  have hs' : ∀ x ∈ ss, 1 ≤ x := fun x hx => hs x (List.mem_cons_of_mem s hx)
  constructor
  · intro h
    obtain ⟨n, h0, hc⟩ := can_cons.mp h
    by_cases z : n = 0
    · subst z
      left
      simpa using hc
    · right
      have e : t - n * s = t - s - (n - 1) * s := by
        rw [Int.sub_mul]; omega
      have h2 : Can (s :: ss) (t - s) := can_cons.mpr ⟨n - 1, by omega, by rw [← e]; exact hc⟩
      exact ⟨by have := can_nn hs h2; omega, h2⟩
  · rintro (h | ⟨_, h⟩)
    · exact can_cons.mpr ⟨0, by omega, by simpa using h⟩
    · obtain ⟨n, h0, hc⟩ := can_cons.mp h
      refine can_cons.mpr ⟨n + 1, by omega, ?_⟩
      have e : t - (n + 1) * s = t - s - n * s := by rw [Int.add_mul]; omega
      rw [e]; exact hc
theorem can_one {t : Int} {ss : List Int} (h : 0 ≤ t) : Can (1 :: ss) t := by
  have z : ∀ ss : List Int, Can ss 0 := fun ss => ⟨List.replicate ss.length 0, by simp, fun n hn => by rw [List.eq_of_mem_replicate hn]; omega, by
    induction ss with
    | nil => simp [dot]
    | cons s ss ih => simp [dot, List.replicate_succ, ih]⟩
  exact can_cons.mpr ⟨t, h, by rw [Int.mul_one, Int.sub_self]; exact z ss⟩
end Pv

set_option maxHeartbeats 4000000
namespace Pv
local macro_rules
  | `(tactic| simp! only [$ls,*] $[$loc:location]?) => `(tactic| simp -implicitDefEqProofs only [evS, evT, evE, evP, evPs, evV, evA, evAnd, evOr, evI, Pv.a0, Pv.a1, Pv.v0, Pv.v1, opd, slotOf, satOp, Pv.two, Pv.one, ob_s, ob_n, sc_int, sc_bl, sc_str, sc_non, bd_ok, bd_exc, thenE_ok, thenE_exc, thenT_ok, thenT_exc, thenA_ok, thenI_ok, fl_nx, fl_ret, fl_exc, fl_bk, fl_ct, fl_nil, evSs_nil, asBl, asInt, un_non, un_bl, un_int, un_str, un_tup, un_lst, un_obj, un_un, fz, fzs, isSc, isScs, isFz, isFzs, isOwn, isOwns, dNeg, dT, tgA, setAll, okS, res, at2, it_tup, it_lst, chnD, lItems, tmps, cpyLoc, cpyTmp, ixTmp, ioPos, wipeD, out_ret, out_nx, out_exc, outsOf, and_self, and_true, true_and, false_and, and_false, fzs_ints, Pv.sto1, Pv.sto2, ownItems, at2_0, at2_1, at3_0, at3_1, at3_2, at4_0, at4_1, at4_2, at4_3, ix_20, ix_21, ix_40, ix_41, ix_42, ix_43, List.length_map, isFzs, d2_add, d2_sub, d2_lt, d2_le, d2_gt, d2_ge, d2_eq, d2_ne, d2_eqs, d2_eqb, d2_isn_non, d2_isn_int, d2_isn_bl, d2_isn_str, d2_isn_tup, d2_isn_lst, d2_notn_non, d2_notn_int, d2_notn_bl, d2_notn_str, d2_notn_tup, d2_notn_lst, d2_mod, d2_fdiv, Int.reduceToNat, Int.reducePow, Int.reduceEq, Int.reduceLT, Int.reduceLE, Int.reduceNeg, Int.reduceMul, Int.reduceAdd, Int.reduceSub, cst0, cst1, cst2, cst3, cst4, cst5, cst6, cst7, cst8, cst9, cst10, cst11, cst12, go_some, go_nil, sq_nx, sq_ret, sq_exc, sq_bk, sq_ct, lq_nx, lq_ct, lq_bk, lq_ret, lq_exc, lcD_eq, lcR_some, Int.toNat_natCast, ne_eq, not_false_eq_true, not_true_eq_false, dF_gcd, dF_lenL, dF_lenT, dF_int, dF_intb, dF_abs, dF_min, dF_max, dI_ii, dI_ib, dI_is, dI_il, dI_it, dI_bi, dI_bb, dI_bs, dI_bl, dI_bt, dI_si, dI_sb, dI_ss, dI_sl, dI_st, dI_li, dI_lb, dI_ls, dI_ll, dI_lt, dI_ti, dI_tb, dI_ts, dI_tl, dI_tt, dI_ni, dI_nb, dI_ns, dI_nl, dI_nt, Option.map_some, List.length_cons, List.length_nil, List.getElem?_cons_zero, List.getElem?_cons_succ, List.getElem?_nil, List.set_cons_zero, List.set_cons_succ, List.set_nil, List.map_cons, List.map_nil, List.cons_append, List.nil_append, List.append_nil, List.replicate, List.getD_cons_zero, List.getD_cons_succ, List.contains_nil, List.contains_cons, Nat.reduceBEq, Bool.or_false, Bool.false_or, Bool.or_self, Bool.or_true, Bool.true_or, List.isEmpty_nil, List.isEmpty_cons, decide_true, decide_false, if_true, if_false, Bool.false_eq_true, Bool.not_true, Bool.not_false, Bool.and_true, Bool.true_and, Bool.and_self, Bool.and_false, Bool.false_and, reduceIte, Nat.zero_add, Nat.reduceAdd, Nat.reduceSub, Nat.reduceLT, Nat.reduceLeDiff, Nat.reduceEqDiff, decide_eq_true_eq, eq_self, Option.some.injEq, reduceCtorEq, Nat.lt_irrefl, fzs_len, $ls,*] $[$loc]?)
open PySem
--@ev fzs_len
def b_L_room : Ss := .cons (.asg (.nm 2) (.lst (.cons (.lc (.nm 6) (.rng1 (.cons (.pk (.op2 .add (.var 1) (.con (.int 1)))) (.nil))) (.nil) (.pk (.op2 .eq (.var 6) (.con (.int 0)))) [6]) (.nil)))) (.cons (.for_ (.nm 3) (.rng1 (.cons (.pk (.fnc .len (.cons (.var 0) (.nil)))) (.nil))) (.cons (.asg (.nm 4) (.ix (.var 0) (.pk (.op2 .sub (.op2 .sub (.fnc .len (.cons (.var 0) (.nil))) (.con (.int 1))) (.var 3))))) (.cons (.asg (.nm 5) (.lst (.nil))) (.cons (.for_ (.nm 6) (.rng1 (.cons (.pk (.op2 .add (.var 1) (.con (.int 1)))) (.nil))) (.cons (.app 5 (.lor (.cons (.pk (.ix (.ix (.var 2) (.con (.int 0))) (.var 6))) (.cons (.land (.cons (.pk (.op2 .ge (.var 6) (.var 4))) (.cons (.ix (.var 5) (.pk (.op2 .sub (.var 6) (.var 4)))) (.nil)))) (.nil))))) (.nil))) (.cons (.ins 2 (.mv 5)) (.nil)))))) (.cons (.ret (.var 2)) (.nil)))
def n_L_room : Nat := 7
def m_L_room : List D → Option Out := evFn 0 [false, false] n_L_room b_L_room
def F_L_room : Fn := ⟨[false, false], m_L_room⟩
noncomputable def rowB (o : Bool) (ss : List Int) (g : Nat) : D := .lst o ((List.range (g + 1)).map fun t => .bl (canB ss (t : Nat)))
noncomputable def canL (o : Bool) : List Int → Nat → List D
  | [], g => [rowB o [] g]
  | s :: ss, g => rowB o (s :: ss) g :: canL o ss g
theorem fz_rowB (o : Bool) (ss : List Int) (g : Nat) : fz (rowB o ss g) = rowB false ss g := by
  simp only [rowB, fz]
  rw [fzs_mapF _ fun _ => rfl]
theorem it_rowB {o : Bool} {ss : List Int} {g : Nat} : itemsOf (rowB o ss g) = some ((List.range (g + 1)).map fun t => .bl (canB ss (t : Nat))) := rfl
theorem isOwns_bls (f : Nat → Bool) : ∀ l : List Nat, isOwns (l.map fun t => D.bl (f t)) = true
  | [] => rfl
  | t :: l => by simp [isOwns, isOwn, isOwns_bls f l]
theorem isOwn_rowB (ss : List Int) (g : Nat) : isOwn (rowB true ss g) = true := by
  simp only [rowB, isOwn, Bool.true_and]
  exact isOwns_bls (fun t => canB ss (t : Nat)) _
theorem isOwns_canL (g : Nat) : ∀ ss : List Int, isOwns (canL true ss g) = true
  | [] => by simp [canL, isOwns, isOwn_rowB]
  | s :: ss => by simp [canL, isOwns, isOwn_rowB, isOwns_canL g ss]
theorem fzs_canL (o : Bool) (g : Nat) : ∀ ss : List Int, fzs (canL o ss g) = canL false ss g
  | [] => by simp [canL, fzs, fz_rowB]
  | s :: ss => by simp [canL, fzs, fz_rowB, fzs_canL o g ss]
theorem canL_len (o : Bool) (g : Nat) : ∀ ss : List Int, (canL o ss g).length = ss.length + 1
  | [] => rfl
  | s :: ss => by simp [canL, canL_len o g ss]
theorem canL_get (o : Bool) (g : Nat) : ∀ (ss : List Int) (i : Nat), i ≤ ss.length → (canL o ss g)[i]? = some (rowB o (ss.drop i) g)
  | [], i, h => by
    simp at h
    subst h
    rfl
  | s :: ss, 0, h => rfl
  | s :: ss, i + 1, h => by
    simp only [canL, List.getElem?_cons_succ, List.drop_succ_cons]
    exact canL_get o g ss i (by simpa using h)
theorem at_canL {o : Bool} {g i : Nat} {ss : List Int} {k : Int} (h : i ≤ ss.length) (hk : k = (i : Nat)) : L2.atI (canL o ss g) k = some (rowB o (ss.drop i) g) := by
  subst hk
  exact at_nat (canL_get o g ss i h)
theorem at_bls {g t : Nat} {k : Int} (f : Nat → Bool) (h : t < g) (hk : k = (t : Nat)) : L2.atI ((List.range g).map fun t => D.bl (f t)) k = some (.bl (f t)) := by
  subst hk
  exact at_nat (by rw [List.getElem?_map, List.getElem?_range h]; rfl)
theorem canB_nil (t : Nat) : canB [] (t : Int) = decide ((t : Int) = 0) := by
  rw [Bool.eq_iff_iff, canB_iff, can_nil, decide_eq_true_iff]
theorem room_ok {sz : List Int} {g : Nat} (hs : ∀ x ∈ sz, 1 ≤ x ∧ x ≤ 12) (hl : sz.length ≤ 6) (hg : g ≤ 100) : m_L_room [.lst false (sz.map D.int), .int (g : Nat)] = some (.ret (.lst true (canL true sz g)) []) := by
  have r1 : rngB ((g : Int) + 1) = true := by have := rngB_len (n := g + 1) (by omega); simpa using this
  have r2 : rngB ((sz.length : Nat) : Int) = true := rngB_len (by omega)
  have tn : ((g : Int) + 1).toNat = g + 1 := by omega
  unfold m_L_room; refine fn_go ?_; unfold b_L_room n_L_room
  rw [go_cons]; simp! only [r1, tn]
  rw [lc_rng (fun t => .bl (canB [] (t : Nat))) (by omega) (fun j acc hj ha => by
    rw [lcP_eq]
    simp! only []
    exact ⟨ha, by rw [canB_nil]⟩)]
  simp! only []
  rw [go_cons]; simp! only [r2]
  refine go_rng0 (P := fun j rs => ∃ x y z w, rs = [.lst false (sz.map D.int), .int (g : Nat), .lst true (canL true (sz.drop (sz.length - j)) g), x, y, z, w]) ⟨.un, .un, .un, .un, by rw [Nat.sub_zero, List.drop_length, canL, rowB]⟩ ?_ ?_
  · rintro j rs hj ⟨x, y, z, w, rfl⟩
    refine ⟨_, rfl, ?_⟩
    have hd : sz.drop (sz.length - (j + 1)) = sz[sz.length - (j + 1)] :: sz.drop (sz.length - j) := by
      rw [List.drop_eq_getElem_cons (by omega), show sz.length - (j + 1) + 1 = sz.length - j by omega]
    have hsz : ∀ x ∈ sz.drop (sz.length - (j + 1)), 1 ≤ x := fun x hx => (hs x (List.mem_of_mem_drop hx)).1
    have ha : L2.atI (sz.map D.int) ((sz.length : Int) - 1 - (j : Int)) = some (.int sz[sz.length - (j + 1)]) := at_ints (by omega) (by
      rw [show ((sz.length : Int) - 1 - (j : Int)).toNat = sz.length - (j + 1) by omega]
      exact List.getElem?_eq_getElem _)
    have hle : (sz.drop (sz.length - j)).length ≤ 6 := by rw [List.length_drop]; omega
    rw [hd] at hsz ⊢
    generalize sz[sz.length - (j + 1)] = s at *
    generalize sz.drop (sz.length - j) = ss at *
    have s1 := hsz s List.mem_cons_self
    rw [go_cons]; simp! only [ixLoc, ha, isFz]
    rw [go_cons]; simp! only []
    rw [go_cons]; simp! only [r1, tn]
    refine go_rng0 (P := fun t rs => ∃ x, rs = [.lst false (sz.map D.int), .int (g : Nat), .lst true (canL true ss g), .int (j : Nat), .int s, .lst true ((List.range t).map fun t => .bl (canB (s :: ss) (t : Nat))), x]) ⟨_, rfl⟩ ?_ ?_
    · rintro t rs ht ⟨x, rfl⟩
      refine ⟨_, rfl, ?_⟩
      have e1 : L2.atI (canL false ss g) 0 = some (rowB false ss g) := at_canL (i := 0) (by omega) rfl
      have e2 := at_bls (k := (t : Nat)) (fun t => canB ss (t : Nat)) ht rfl
      have cs : canB (s :: ss) (t : Nat) = (canB ss (t : Nat) || (decide (s ≤ (t : Int)) && canB (s :: ss) ((t : Int) - s))) := by
        rw [Bool.eq_iff_iff]
        simp only [Bool.or_eq_true, Bool.and_eq_true, decide_eq_true_eq, canB_iff]
        exact can_step hsz
      have fin : ∀ b, b = canB (s :: ss) (t : Nat) → (List.range t).map (fun t => D.bl (canB (s :: ss) (t : Nat))) ++ [.bl b] = (List.range (t + 1)).map fun t => D.bl (canB (s :: ss) (t : Nat)) := by
        rintro b rfl
        rw [List.range_succ, List.map_append]; rfl
      have ll : t < 1000000 := by omega
      have hz := fzs_canL true g ss
      cases hc : canB ss (t : Nat) with
      | true =>
        rw [hc] at cs e2
        rw [go_cons]; simp! only [isOwnL, hz, e1, it_rowB, e2, app1, List.length_range, ll]
        exact ⟨_, by rw [fin _ (by rw [cs]; rfl)]⟩
      | false =>
        rw [hc] at cs e2
        by_cases hle : s ≤ (t : Int)
        · have e3 : L2.atI ((List.range t).map fun t => D.bl (canB (s :: ss) (t : Nat))) ((t : Int) - s) = some (.bl (canB (s :: ss) ((t : Int) - s))) := by
            obtain ⟨u, hu⟩ : ∃ u : Nat, (t : Int) - s = (u : Nat) := ⟨((t : Int) - s).toNat, by omega⟩
            rw [hu]
            exact at_bls (fun t => canB (s :: ss) (t : Nat)) (by omega) rfl
          cases hq : canB (s :: ss) ((t : Int) - s) with
          | true =>
            rw [hq] at e3
            rw [go_cons]; simp! only [isOwnL, hz, e1, it_rowB, e2, hle, ixLoc, e3, isFz, app1, List.length_range, ll]
            exact ⟨_, by rw [fin _ (by rw [cs, hq]; simp [hle])]⟩
          | false =>
            rw [hq] at e3
            rw [go_cons]; simp! only [isOwnL, hz, e1, it_rowB, e2, hle, ixLoc, e3, isFz, app1, List.length_range, ll]
            exact ⟨_, by rw [fin _ (by rw [cs, hq]; simp)]⟩
        · rw [go_cons]; simp! only [isOwnL, hz, e1, it_rowB, e2, hle, app1, List.length_range, ll]
          exact ⟨_, by rw [fin _ (by rw [cs]; simp [hle])]⟩
    · rintro rs ⟨x, rfl⟩
      simp! only []
      have hlx : (canL true ss g).length < 1000000 := by
        rw [canL_len]
        omega
      rw [go_cons]; simp! only [isOwnL, ins1, hlx]
      exact ⟨_, _, _, _, rfl⟩
  · rintro rs ⟨x, y, z, w, rfl⟩
    rw [Nat.sub_self, List.drop_zero]
    simp! only []
    rw [go_cons]; simp! only []
theorem call_room {sz : List Int} {g : Nat} {rs : List D} {A B : Arg} (hs : ∀ x ∈ sz, 1 ≤ x ∧ x ≤ 12) (hl : sz.length ≤ 6) (hg : g ≤ 100) (h1 : res rs A = .lst false (sz.map D.int)) (h2 : res rs B = .int (g : Nat)) : callD F_L_room [A, B] rs = some (.ok (.lst true (canL true sz g)) rs) :=
  call_v2 (by rw [h1, h2]; exact room_ok hs hl hg) (by simp only [isOwn, isOwns_canL, Bool.and_self])
def b_L_outcome : Ss := .cons (.asg (.nm 3) (.call "_law_room" F_L_room (.cons (.var 1) (.cons (.var 2) (.nil))))) (.cons (.asg (.nm 4) (.lst (.nil))) (.cons (.for_ (.nm 5) (.rng1 (.cons (.pk (.fnc .len (.cons (.var 1) (.nil)))) (.nil))) (.cons (.asg (.nm 6) (.lc (.nm 7) (.rng1 (.cons (.pk (.op2 .add (.op2 .fdiv (.var 2) (.ix (.var 1) (.var 5))) (.con (.int 1)))) (.nil))) (.cons (.pk (.ix (.ix (.var 3) (.op2 .add (.var 5) (.con (.int 1)))) (.op2 .sub (.var 2) (.op2 .mul (.var 7) (.ix (.var 1) (.var 5)))))) (.nil)) (.var 7) [7])) (.cons (.asg (.nm 7) (.ix (.var 6) (.call "_law_pull" F_L_pull (.cons (.var 0) (.cons (.pk (.fnc .len (.cons (.var 6) (.nil)))) (.nil)))))) (.cons (.app 4 (.var 7)) (.cons (.asg (.nm 2) (.pk (.op2 .sub (.var 2) (.op2 .mul (.var 7) (.ix (.var 1) (.var 5)))))) (.nil)))))) (.cons (.ret (.var 4)) (.nil))))
def n_L_outcome : Nat := 8
def m_L_outcome : List D → Option Out := evFn 0 [true, false, false] n_L_outcome b_L_outcome
def F_L_outcome : Fn := ⟨[true, false, false], m_L_outcome⟩
theorem at_sz {sz : List Int} {j : Nat} (h : j < sz.length) : L2.atI (sz.map D.int) (j : Int) = some (.int sz[j]) := at_natI (List.getElem?_eq_getElem h)
theorem dot_snoc {z n : Int} : ∀ {ss ns : List Int}, ns.length = ss.length → dot (ss ++ [z]) (ns ++ [n]) = dot ss ns + z * n
  | [], [], _ => by simp [dot]
  | s :: ss, m :: ns, h => by
    simp only [List.cons_append, dot]
    rw [dot_snoc (by simpa using h)]
    omega
  | [], _ :: _, h => by simp at h
  | _ :: _, [], h => by simp at h
theorem outcome_ok {d : D} {sz : List Int} {g : Nat} (hd : StOk d) (hs : ∀ x ∈ sz, 1 ≤ x ∧ x ≤ 12) (hl : sz.length ≤ 6) (hg : g ≤ 100) (hc : Can sz g) :
    ∃ o, m_L_outcome [d, .lst false (sz.map D.int), .int (g : Nat)] = some o ∧ ∃ d' ns, StOk d' ∧ ns.length = sz.length ∧ (∀ n ∈ ns, 0 ≤ n ∧ n ≤ (g : Int)) ∧ dot sz ns = g ∧ o = .ret (.lst true (ns.map D.int)) [d'] := by
  have r2 : rngB ((sz.length : Nat) : Int) = true := rngB_len (by omega)
  have ec := call_room (rs := [d, .lst false (sz.map D.int), .int (g : Nat), .un, .un, .un, .un, .un]) (A := .loc 1) (B := .loc 2) hs hl hg (by rw [res_loc rfl]; simp only [fz, fzs_ints]) (by rw [res_loc rfl]; rfl)
  have hz := fzs_canL true g sz
  unfold m_L_outcome; refine fn_goE ?_; unfold b_L_outcome n_L_outcome
  rw [go_cons]; simp! only [ec]
  rw [go_cons]; simp! only []
  rw [go_cons]; simp! only [r2]
  refine go_rng0 (P := fun j rs => ∃ d ns gl x y, StOk d ∧ (ns : List Int).length = j ∧ (∀ n ∈ ns, 0 ≤ n ∧ n ≤ (g : Int)) ∧ dot (sz.take j) ns + gl = g ∧ Can (sz.drop j) gl ∧ 0 ≤ gl ∧ gl ≤ (g : Int) ∧
    rs = [d, .lst false (sz.map D.int), .int gl, .lst true (canL true sz g), .lst true (ns.map D.int), x, y.1, y.2]) ⟨d, [], _, _, (.un, .un), hd, rfl, by simp, by simp [dot], hc, by omega, by omega, rfl⟩ ?_ ?_
  · rintro j rs hj ⟨d, ns, gl, x, ⟨y1, y2⟩, hd, hln, hb, hdot, hcan, g0, g1, rfl⟩
    refine ⟨_, rfl, ?_⟩
    have hk := at_sz hj
    have hdr : sz.drop j = sz[j] :: sz.drop (j + 1) := List.drop_eq_getElem_cons hj
    have htk : sz.take (j + 1) = sz.take j ++ [sz[j]] := by rw [List.take_succ, List.getElem?_eq_getElem hj]; rfl
    have hsj := hs _ (List.getElem_mem hj)
    have hsd : ∀ x ∈ sz.drop (j + 1), 1 ≤ x := fun x hx => (hs x (List.mem_of_mem_drop hx)).1
    rw [hdr] at hcan
    generalize sz[j] = s at *
    obtain ⟨Q, hQ⟩ : ∃ Q : Nat, gl.fdiv s + 1 = (Q : Nat) := ⟨(gl.fdiv s + 1).toNat, by have := Int.fdiv_nonneg g0 (show 0 ≤ s by omega); omega⟩
    have hq1 : ∀ t : Nat, t < Q ↔ (t : Int) * s ≤ gl := fun t => by
      rw [Int.fdiv_eq_ediv_of_nonneg _ (by omega)] at hQ
      rw [show t < Q ↔ (t : Int) ≤ gl / s by omega]
      exact Int.le_ediv_iff_mul_le (by omega)
    have hQ2 : Q ≤ 101 := by
      rw [Int.fdiv_eq_ediv_of_nonneg _ (by omega)] at hQ
      have := Int.ediv_le_self s g0
      omega
    have r3 : rngB ((Q : Nat) : Int) = true := rngB_len (by omega)
    have s0 : s ≠ 0 := by omega
    have mm : ∀ t : Nat, t < Q → mulOk (t : Int) s = true := fun t ht => mul_of 10 10 (by omega) (by omega) (by decide) (by decide)
    rw [go_cons]; simp! only [hk, d2_fdiv s0, hQ, r3]
    have lce : ∀ rs', rs' = [d, .lst false (sz.map D.int), .int gl, .lst true (canL true sz g), .lst true (ns.map D.int), .int (j : Nat), y1, .un] → True := fun _ _ => trivial
    rw [show rngD 0 Q = (List.range Q).map fun i : Nat => D.int (0 + (i : Nat)) from rfl]
    rw [lc_some (fun t : Nat => canB (sz.drop (j + 1)) (gl - (t : Nat) * s)) (fun t => D.int (t : Nat)) (by simpa using (show Q < 1000000 by omega)) (fun t acc ht ha => by
      have htQ : t < Q := by simpa using ht
      have hts := (hq1 t).mp htQ
      have ht0 : 0 ≤ (t : Int) * s := Int.mul_nonneg (by omega) (by omega)
      obtain ⟨u, hu⟩ : ∃ u : Nat, gl - (t : Int) * s = (u : Nat) := ⟨(gl - (t : Int) * s).toNat, by omega⟩
      have e1 : L2.atI (canL false sz g) ((j : Int) + 1) = some (rowB false (sz.drop (j + 1)) g) := at_canL (i := j + 1) (by omega) (by omega)
      have e2 := at_bls (g := g + 1) (t := u) (k := (u : Nat)) (fun t => canB (sz.drop (j + 1)) (t : Nat)) (by omega) rfl
      rw [Int.zero_add, hu]
      rw [lcP_eq]
      cases hcb : canB (sz.drop (j + 1)) (u : Nat) with
      | true =>
        rw [hcb] at e2
        simp! only [hz, hk, d2_mul (mm t htQ), e1, it_rowB, hu, e2]
        first | exact ha | exact ⟨ha, by first | trivial | rfl⟩ | exact ⟨ha, by first | trivial | rfl, by first | trivial | rfl⟩
      | false =>
        rw [hcb] at e2
        simp! only [hz, hk, d2_mul (mm t htQ), e1, it_rowB, hu, e2])]
    simp! only []
    obtain ⟨L, hL⟩ : ∃ L : List Nat, L = (List.range Q).filter fun t => canB (sz.drop (j + 1)) (gl - (t : Nat) * s) := ⟨_, rfl⟩
    have hne : 0 < L.length := by
      obtain ⟨n, n0, hn⟩ := can_cons.mp hcan
      have := can_nn hsd hn
      obtain ⟨t, ht⟩ : ∃ t : Nat, n = (t : Nat) := ⟨n.toNat, by omega⟩
      subst ht
      have hm : t ∈ L := by
        rw [hL, List.mem_filter]
        exact ⟨by rw [List.mem_range]; exact (hq1 t).mpr (by omega), canB_iff.mpr hn⟩
      exact List.length_pos_of_mem hm
    rw [← hL]
    obtain ⟨v, d', hd', v0, v1, ep⟩ := call_pull (d := d) (many := (L.length : Nat)) (s := 0) (rs := [d, .lst false (sz.map D.int), .int gl, .lst true (canL true sz g), .lst true (ns.map D.int), .int (j : Nat), .lst true (L.map fun t => D.int (t : Nat)), .un]) hd (by omega) rfl
    obtain ⟨w, hw⟩ : ∃ w : Nat, v = (w : Nat) := ⟨v.toNat, by omega⟩
    subst hw
    have hwl : w < L.length := by omega
    have hmem : L[w] ∈ L := List.getElem_mem hwl
    have ea : L2.atI (L.map fun t => D.int (t : Nat)) (w : Int) = some (.int (L[w] : Nat)) := at_nat (by rw [List.getElem?_map, List.getElem?_eq_getElem hwl]; rfl)
    have hmem' : L[w] ∈ (List.range Q).filter fun t => canB (sz.drop (j + 1)) (gl - (t : Nat) * s) := hL ▸ hmem
    rw [List.mem_filter, List.mem_range] at hmem'
    clear hmem
    generalize L[w] = m at *
    obtain ⟨hmQ, hmc⟩ := hmem'
    have hms := (hq1 m).mp hmQ
    have hm0 : 0 ≤ (m : Int) * s := Int.mul_nonneg (by omega) (by omega)
    have hmle : (m : Int) ≤ (m : Int) * s := by
      have := Int.mul_le_mul_of_nonneg_left (show (1 : Int) ≤ s by omega) (show (0 : Int) ≤ (m : Nat) by omega)
      omega
    have hun : isUn d = false := hd.un
    rw [go_cons]; simp! only [hun, ep, ixLoc, ea, isFz]
    rw [go_cons]; simp! only [isOwnL, app1, show ns.length < 1000000 by omega]
    rw [go_cons]; simp! only [hk, d2_mul (mm m hmQ)]
    refine ⟨d', ns ++ [(m : Int)], gl - (m : Int) * s, _, (.lst true (L.map fun t => D.int (t : Nat)), .int (m : Nat)), hd', by simp [hln], ?_, ?_, canB_iff.mp hmc, by omega, by omega, by rw [List.map_append]; rfl⟩
    · intro n hn
      rcases List.mem_append.mp hn with hn | hn
      · exact hb n hn
      · simp at hn
        subst hn
        omega
    · rw [htk, dot_snoc (by rw [List.length_take]; omega), Int.mul_comm s]
      omega
  · rintro rs ⟨d, ns, gl, x, ⟨y1, y2⟩, hd, hln, hb, hdot, hcan, g0, g1, rfl⟩
    rw [List.drop_length, can_nil] at hcan
    rw [List.take_length] at hdot
    simp! only []
    rw [go_cons]; simp! only []
    exact ⟨_, rfl, d, ns, hd, hln, hb, by omega, rfl⟩
end Pv

set_option maxHeartbeats 4000000
namespace Pv
local macro_rules
  | `(tactic| simp! only [$ls,*] $[$loc:location]?) => `(tactic| simp -implicitDefEqProofs only [evS, evT, evE, evP, evPs, evV, evA, evAnd, evOr, evI, Pv.a0, Pv.a1, Pv.v0, Pv.v1, opd, slotOf, satOp, Pv.two, Pv.one, ob_s, ob_n, sc_int, sc_bl, sc_str, sc_non, bd_ok, bd_exc, thenE_ok, thenE_exc, thenT_ok, thenT_exc, thenA_ok, thenI_ok, fl_nx, fl_ret, fl_exc, fl_bk, fl_ct, fl_nil, evSs_nil, asBl, asInt, un_non, un_bl, un_int, un_str, un_tup, un_lst, un_obj, un_un, fz, fzs, isSc, isScs, isFz, isFzs, isOwn, isOwns, dNeg, dT, tgA, setAll, okS, res, at2, it_tup, it_lst, chnD, lItems, tmps, cpyLoc, cpyTmp, ixTmp, ioPos, wipeD, out_ret, out_nx, out_exc, outsOf, and_self, and_true, true_and, false_and, and_false, fzs_ints, Pv.sto1, Pv.sto2, ownItems, at2_0, at2_1, at3_0, at3_1, at3_2, at4_0, at4_1, at4_2, at4_3, ix_20, ix_21, ix_40, ix_41, ix_42, ix_43, List.length_map, isFzs, d2_add, d2_sub, d2_lt, d2_le, d2_gt, d2_ge, d2_eq, d2_ne, d2_eqs, d2_eqb, d2_isn_non, d2_isn_int, d2_isn_bl, d2_isn_str, d2_isn_tup, d2_isn_lst, d2_notn_non, d2_notn_int, d2_notn_bl, d2_notn_str, d2_notn_tup, d2_notn_lst, d2_mod, d2_fdiv, Int.reduceToNat, Int.reducePow, Int.reduceEq, Int.reduceLT, Int.reduceLE, Int.reduceNeg, Int.reduceMul, Int.reduceAdd, Int.reduceSub, cst0, cst1, cst2, cst3, cst4, cst5, cst6, cst7, cst8, cst9, cst10, cst11, cst12, go_some, go_nil, sq_nx, sq_ret, sq_exc, sq_bk, sq_ct, lq_nx, lq_ct, lq_bk, lq_ret, lq_exc, lcD_eq, lcR_some, Int.toNat_natCast, ne_eq, not_false_eq_true, not_true_eq_false, dF_gcd, dF_lenL, dF_lenT, dF_int, dF_intb, dF_abs, dF_min, dF_max, dI_ii, dI_ib, dI_is, dI_il, dI_it, dI_bi, dI_bb, dI_bs, dI_bl, dI_bt, dI_si, dI_sb, dI_ss, dI_sl, dI_st, dI_li, dI_lb, dI_ls, dI_ll, dI_lt, dI_ti, dI_tb, dI_ts, dI_tl, dI_tt, dI_ni, dI_nb, dI_ns, dI_nl, dI_nt, Option.map_some, List.length_cons, List.length_nil, List.getElem?_cons_zero, List.getElem?_cons_succ, List.getElem?_nil, List.set_cons_zero, List.set_cons_succ, List.set_nil, List.map_cons, List.map_nil, List.cons_append, List.nil_append, List.append_nil, List.replicate, List.getD_cons_zero, List.getD_cons_succ, List.contains_nil, List.contains_cons, Nat.reduceBEq, Bool.or_false, Bool.false_or, Bool.or_self, Bool.or_true, Bool.true_or, List.isEmpty_nil, List.isEmpty_cons, decide_true, decide_false, if_true, if_false, Bool.false_eq_true, Bool.not_true, Bool.not_false, Bool.and_true, Bool.true_and, Bool.and_self, Bool.and_false, Bool.false_and, reduceIte, Nat.zero_add, Nat.reduceAdd, Nat.reduceSub, Nat.reduceLT, Nat.reduceLeDiff, Nat.reduceEqDiff, decide_eq_true_eq, eq_self, Option.some.injEq, reduceCtorEq, Nat.lt_irrefl, $ls,*] $[$loc]?)
open PySem
def b_L_lottery : Ss := .cons (.asg (.nm 4) (.op2 .add (.con (.int 1)) (.call "_law_pull" F_L_pull (.cons (.var 0) (.cons (.var 3) (.nil)))))) (.cons (.asg (.nm 5) (.op2 .add (.var 4) (.call "_law_pull" F_L_pull (.cons (.var 0) (.cons (.pk (.op2 .sub (.con (.int 101)) (.var 4))) (.nil)))))) (.cons (.asg (.nm 6) (.var 5)) (.cons (.asg (.nm 7) (.lst (.nil))) (.cons (.for_ (.nm 8) (.rng1 (.cons (.var 4) (.nil))) (.cons (.asg (.nm 9) (.var 6)) (.cons (.ite (.pk (.op2 .lt (.var 8) (.op2 .sub (.var 4) (.con (.int 1))))) (.cons (.asg (.nm 9) (.op2 .add (.con (.int 1)) (.call "_law_pull" F_L_pull (.cons (.var 0) (.cons (.pk (.op2 .add (.op2 .add (.op2 .sub (.var 6) (.var 4)) (.con (.int 1))) (.var 8))) (.nil)))))) (.nil)) (.nil)) (.cons (.asg (.nm 6) (.pk (.op2 .sub (.var 6) (.var 9)))) (.cons (.asg (.nm 10) (.call "_law_outcome" F_L_outcome (.cons (.var 0) (.cons (.var 1) (.cons (.var 2) (.nil)))))) (.ali 11 7 12 10 9 (.cons (.app 7 (.lst (.cons (.var 9) (.cons (.var 5) (.cons (.var 10) (.nil)))))) (.nil)) (.nil))))))) (.cons (.ret (.var 7)) (.nil))))))
def n_L_lottery : Nat := 13
def m_L_lottery : List D → Option Out := evFn 0 [true, false, false, false] n_L_lottery b_L_lottery
def F_L_lottery : Fn := ⟨[true, false, false, false], m_L_lottery⟩
theorem eqvAll_ints : ∀ as bs : List Int, PyData.eqvAll (as.map .int) (bs.map .int) = decide (as = bs)
  | [], [] => rfl
  | [], b :: bs => by simp [PyData.eqvAll]
  | a :: as, [] => by simp [PyData.eqvAll]
  | a :: as, b :: bs => by
    simp only [List.map_cons, PyData.eqvAll, PyData.eqv, eqvAll_ints as bs, List.cons.injEq, Bool.decide_and]
    rfl
theorem canLay_ints : ∀ as : List Int, PyData.canLayAll0 (as.map .int) = true
  | [] => rfl
  | a :: as => by simp only [List.map_cons, PyData.canLayAll0, PyData.canLay0, canLay_ints as, Bool.and_self]
theorem dEq_ints (as bs : List Int) : dEq (.lst false (as.map D.int)) (.lst false (bs.map D.int)) = some (decide (as = bs)) := by
  have hs : ∀ as : List Int, PySem.SeqAt.shaped (.list (as.map .int)) = true := fun as => by
    simp [PySem.SeqAt.shaped, PyData.canLay0, canLay_ints, PyData.depth, PySem.W.depth_ints]
  simp only [dEq, toPd, toPd_ints, Option.map_some, hs, Bool.and_self, if_true, PyData.eqv, eqvAll_ints]
/-- an entry of a lottery of the law's -/
def lwD (b : Int) (e : Int × List Int) : D := .lst true [.int e.1, .int b, .lst false (e.2.map D.int)]
theorem aliBs_lw (b : Int) (ns : List Int) : ∀ es : List (Int × List Int), aliBs (.lst false (ns.map D.int)) (es.map (lwD b)) = some (es.map fun e => decide (e.2 = ns))
  | [] => rfl
  | e :: es => by
    have h1 : aliB (.lst false (ns.map D.int)) (lwD b e) = some (decide (e.2 = ns)) := by
      show dEq (.lst false (fzs (e.2.map D.int))) (.lst false (ns.map D.int)) = _
      rw [fzs_ints, dEq_ints]
    simp only [List.map_cons, aliBs, h1, aliBs_lw b ns es]
theorem firstT_none {A : Type} {p : A → Bool} : ∀ {es : List A}, firstT (es.map p) = none → ∀ e ∈ es, p e = false
  | [], _, _, h => by simp at h
  | x :: es, h, e, he => by
    simp only [List.map_cons] at h
    cases q : p x with
    | true => rw [q] at h; simp [firstT] at h
    | false =>
      rw [q] at h
      rcases List.mem_cons.mp he with rfl | he
      · exact q
      · exact firstT_none (by simpa [firstT] using h) e he
theorem firstT_some {A : Type} {p : A → Bool} : ∀ {es : List A} {i : Nat}, firstT (es.map p) = some i → ∃ e, es[i]? = some e ∧ p e = true
  | [], _, h => by simp [firstT] at h
  | x :: es, i, h => by
    simp only [List.map_cons] at h
    cases q : p x with
    | true => rw [q] at h; simp [firstT] at h; subst h; exact ⟨x, rfl, q⟩
    | false =>
      rw [q] at h
      simp only [firstT] at h
      obtain ⟨k, hk, rfl⟩ := Option.map_eq_some_iff.mp h
      obtain ⟨e, h1, h2⟩ := firstT_some hk
      exact ⟨e, by simpa using h1, h2⟩
theorem sum_set_fst {z : Int} : ∀ {es : List (Int × List Int)} {i : Nat} {e : Int × List Int}, es[i]? = some e → ((es.set i (e.1 + z, e.2)).map (·.1)).sum = (es.map (·.1)).sum + z
  | [], _, _, h => by simp at h
  | x :: es, 0, e, h => by
    simp at h
    subst h
    simp; omega
  | x :: es, i + 1, e, h => by
    have := sum_set_fst (z := z) (es := es) (i := i) (by simpa using h)
    simp only [List.set_cons_succ, List.map_cons, List.sum_cons, this]
    omega
theorem set_snd {z : Int} : ∀ {es : List (Int × List Int)} {i : Nat} {e : Int × List Int}, es[i]? = some e → (es.set i (e.1 + z, e.2)).map (·.2) = es.map (·.2)
  | [], _, _, h => by simp at h
  | x :: es, 0, e, h => by
    simp at h
    subst h
    simp
  | x :: es, i + 1, e, h => by simp [set_snd (z := z) (es := es) (i := i) (by simpa using h)]
/-- what the law's lottery keeps -/
structure LotG (sz : List Int) (g b : Int) (es : List (Int × List Int)) : Prop where
  b1 : 1 ≤ b
  b2 : b ≤ 100
  ne : 1 ≤ es.length
  few : es.length ≤ 4
  pos : ∀ e ∈ es, 1 ≤ e.1
  sum : (es.map (·.1)).sum = b
  len : ∀ e ∈ es, e.2.length = sz.length
  rng : ∀ e ∈ es, ∀ n ∈ e.2, 0 ≤ n ∧ n ≤ 20
  nd : (es.map (·.2)).Nodup
  bal : ∀ e ∈ es, dot sz e.2 = g
/-- while it is made -/
structure LotP (sz : List Int) (g b : Int) (es : List (Int × List Int)) (left : Int) (k many : Nat) : Prop where
  ne : 1 ≤ k → 1 ≤ es.length
  few : es.length ≤ k
  pos : ∀ e ∈ es, 1 ≤ e.1
  sum : (es.map (·.1)).sum + left = b
  len : ∀ e ∈ es, e.2.length = sz.length
  rng : ∀ e ∈ es, ∀ n ∈ e.2, 0 ≤ n ∧ n ≤ 20
  nd : (es.map (·.2)).Nodup
  bal : ∀ e ∈ es, dot sz e.2 = g
  lo : k < many → (many : Int) - k ≤ left
  hi : k = many → left = 0
theorem LotP.add {sz : List Int} {g b left piece : Int} {es : List (Int × List Int)} {k many : Nat} {ns : List Int} (h : LotP sz g b es left k many) (h1 : 1 ≤ piece) (hlo : k + 1 < many → (many : Int) - (k + 1 : Nat) ≤ left - piece) (hhi : k + 1 = many → left - piece = 0)
    (hl : ns.length = sz.length) (hr : ∀ n ∈ ns, 0 ≤ n ∧ n ≤ 20) (hb : dot sz ns = g) (hn : ∀ e ∈ es, e.2 ≠ ns) : LotP sz g b (es ++ [(piece, ns)]) (left - piece) (k + 1) many := by
  refine ⟨fun _ => by simp, by have := h.few; simp; omega, ?_, ?_, ?_, ?_, ?_, ?_, hlo, hhi⟩
  · intro e he
    rcases List.mem_append.mp he with he | he
    · exact h.pos e he
    · simp at he; subst he; exact h1
  · have := h.sum
    simp only [List.map_append, List.sum_append, List.map_cons, List.map_nil, List.sum_cons, List.sum_nil]
    omega
  · intro e he
    rcases List.mem_append.mp he with he | he
    · exact h.len e he
    · simp at he; subst he; exact hl
  · intro e he
    rcases List.mem_append.mp he with he | he
    · exact h.rng e he
    · simp at he; subst he; exact hr
  · rw [List.map_append, List.nodup_append]
    refine ⟨h.nd, by simp, ?_⟩
    intro x hx y hy
    simp at hy
    subst hy
    obtain ⟨e, he, rfl⟩ := List.mem_map.mp hx
    exact hn e he
  · intro e he
    rcases List.mem_append.mp he with he | he
    · exact h.bal e he
    · simp at he; subst he; exact hb
theorem LotP.up {sz : List Int} {g b left piece : Int} {es : List (Int × List Int)} {k many i : Nat} {e : Int × List Int} (h : LotP sz g b es left k many) (h1 : 1 ≤ piece) (hlo : k + 1 < many → (many : Int) - (k + 1 : Nat) ≤ left - piece) (hhi : k + 1 = many → left - piece = 0)
    (he : es[i]? = some e) : LotP sz g b (es.set i (e.1 + piece, e.2)) (left - piece) (k + 1) many := by
  have hm := List.mem_of_getElem? he
  have hsub : ∀ x ∈ es.set i (e.1 + piece, e.2), x = (e.1 + piece, e.2) ∨ x ∈ es := fun x hx => by
    rcases List.mem_or_eq_of_mem_set hx with h | h
    · exact .inr h
    · exact .inl h
  refine ⟨fun _ => ?_, by have := h.few; simp; omega, ?_, ?_, ?_, ?_, ?_, ?_, hlo, hhi⟩
  · rw [List.length_set]; exact List.length_pos_of_mem hm
  · intro x hx
    rcases hsub x hx with rfl | hx
    · have := h.pos e hm; dsimp only; omega
    · exact h.pos x hx
  · rw [sum_set_fst he]
    have := h.sum
    omega
  · intro x hx
    rcases hsub x hx with rfl | hx
    · exact h.len e hm
    · exact h.len x hx
  · intro x hx
    rcases hsub x hx with rfl | hx
    · exact h.rng e hm
    · exact h.rng x hx
  · rw [set_snd he]; exact h.nd
  · intro x hx
    rcases hsub x hx with rfl | hx
    · exact h.bal e hm
    · exact h.bal x hx
theorem go_ali {n : Nat} {io : List Nat} {o l e u p : Nat} {els r : Ss} {rs : List D} {Q : Fl → Prop} : Go (evSs n io (.ali o l e u p els r) rs) Q = Go (aliD io o l e u p (evSs n io els) rs) (seqQ (evSs n io r) Q) := by
  rw [← go_bd]
  simp only [evSs]
theorem call_pullL {d : D} {many : Int} {s t : Nat} {rs : List D} (h : StOk d) (hm : 0 < many) (e : rs[s]? = some d) (e2 : rs[t]? = some (.int many)) (ne : t ≠ s) : ∃ v d', StOk d' ∧ 0 ≤ v ∧ v < many ∧ callD F_L_pull [.loc s, .loc t] rs = some (.ok (.int v) (rs.set s d')) := by
  obtain ⟨v, d', h1, h2, h3, h4⟩ := pull_ok h hm
  refine ⟨v, d', h1, h2, h3, ?_⟩
  have e0 : rs.getD s .un = d := by rw [List.getD_eq_getElem?_getD, e]; rfl
  have et : (rs.set s .un)[t]? = some (.int many) := by rw [List.getElem?_set_ne (Ne.symm ne)]; exact e2
  have er : res (rs.set s .un) (.loc t) = .int many := by rw [res_loc et]; rfl
  have eg : (rs.set s .un).getD t .un = .int many := by rw [List.getD_eq_getElem?_getD, et]; rfl
  have es : (rs.set s .un).set t (.int many) = rs.set s .un := Pv.set_same et
  have ev : isOwn (.int v) = true := rfl
  by_cases c : isOwn d' = true
  · simp only [callD, F_L_pull, ioOf, Option.map_some, nodupB, passD, blank, e0, er, h4, List.length_cons, List.length_nil, ev, isOwns, c, putBack, Bool.and_self, List.contains_nil, Bool.not_false, if_true, List.set_set]
  · have hf : fz (.int many) = .int many := rfl
    simp only [callD, F_L_pull, ioOf, Option.map_some, nodupB, passD, blank, e0, er, h4, List.length_cons, List.length_nil, ev, isOwns, c, putBack, Bool.and_self, List.contains_nil, Bool.not_false, if_true, tmps, isFzs, freezeV, eg, hf, es, List.set_set, Bool.and_true, Bool.true_and, Bool.false_eq_true, if_false]
theorem call_t3 {m : List D → Option Out} {d B C v d' : D} {rest : List D} (hB : fz B = B) (hC : fz C = C) (e : m [d, B, C] = some (.ret v [d'])) (ev : isOwn v = true) : callD ⟨[true, false, false], m⟩ [.loc 0, .loc 1, .loc 2] (d :: B :: C :: rest) = some (.ok v (d' :: B :: C :: rest)) := by
  by_cases c : isOwn d' = true
  · simp [callD, ioOf, nodupB, passD, blank, res, e, ev, isOwns, c, putBack, hB, hC]
  · simp [callD, ioOf, nodupB, passD, blank, res, e, ev, isOwns, c, putBack, tmps, isFzs, freezeV, hB, hC]
theorem call_t4 {m : List D → Option Out} {d A B C v d' : D} {rest : List D} {s1 s2 s3 : Arg} (h1 : res (.un :: rest) s1 = A) (h2 : res (.un :: rest) s2 = B) (h3 : res (.un :: rest) s3 = C) (e : m [d, A, B, C] = some (.ret v [d'])) (ev : isOwn v = true) (ef : isOwn d' = true ∨ (isFzs (tmps [s1, s2, s3]) = true ∧ freezeV [false, false, false] [s1, s2, s3] (.un :: rest) = .un :: rest)) : callD ⟨[true, false, false, false], m⟩ [.loc 0, s1, s2, s3] (d :: rest) = some (.ok v (d' :: rest)) := by
  by_cases c : isOwn d' = true
  · simp [callD, ioOf, nodupB, passD, blank, h1, h2, h3, e, ev, isOwns, c, putBack]
  · obtain ⟨q1, q2⟩ := ef.resolve_left c
    have q3 : tmps [.loc 0, s1, s2, s3] = tmps [s1, s2, s3] := rfl
    have q4 : freezeV [true, false, false, false] [.loc 0, s1, s2, s3] (.un :: rest) = freezeV [false, false, false] [s1, s2, s3] (.un :: rest) := by simp only [freezeV]
    simp [callD, ioOf, nodupB, passD, blank, h1, h2, h3, e, ev, isOwns, c, putBack, q3, q1, q4, q2]
theorem call_outL {d : D} {sz : List Int} {g : Nat} {rest : List D} (hd : StOk d) (hs : ∀ x ∈ sz, 1 ≤ x ∧ x ≤ 12) (hl : sz.length ≤ 6) (hg : g ≤ 100) (hc : Can sz g) :
    ∃ d' ns, StOk d' ∧ ns.length = sz.length ∧ (∀ n ∈ ns, 0 ≤ n ∧ n ≤ (g : Int)) ∧ dot sz ns = g ∧ callD F_L_outcome [.loc 0, .loc 1, .loc 2] (d :: .lst false (sz.map D.int) :: .int (g : Nat) :: rest) = some (.ok (.lst true (ns.map D.int)) (d' :: .lst false (sz.map D.int) :: .int (g : Nat) :: rest)) := by
  obtain ⟨o, e, d', ns, h1, h2, h3, h4, rfl⟩ := outcome_ok hd hs hl hg hc
  refine ⟨d', ns, h1, h2, h3, h4, ?_⟩
  have ev : isOwn (.lst true (ns.map D.int)) = true := by simp only [isOwn, isOwns_ints, Bool.and_self]
  exact call_t3 (by simp only [fz, fzs_ints]) rfl e ev
theorem lot_step {d x y : D} {sz : List Int} {g k many : Nat} {most b left piece : Int} {es : List (Int × List Int)} {Q : Fl → Prop} (hd : StOk d) (hs : ∀ x ∈ sz, 1 ≤ x ∧ x ≤ 12) (hl : sz.length ≤ 6) (hg : g ≤ 20) (hc : Can sz g) (hk : k ≤ 100) (hp : LotP sz g b es left k many)
    (h1 : 1 ≤ piece) (hlo : k + 1 < many → (many : Int) - (k + 1 : Nat) ≤ left - piece) (hhi : k + 1 = many → left - piece = 0) :
    Go (evSs 0 [0] (match b_L_lottery with
        | .cons _ (.cons _ (.cons _ (.cons _ (.cons (.for_ _ _ (.cons _ (.cons _ b))) _)))) => b
        | _ => .nil) [d, .lst false (sz.map D.int), .int (g : Nat), .int most, .int (many : Nat), .int b, .int left, .lst true (es.map (lwD b)), .int (k : Nat), .int piece, x, y, .un]) (lpQ (fun rs => ∃ d es left x y z w, StOk d ∧ LotP sz g b es left (k + 1) many ∧ rs = [d, .lst false (sz.map D.int), .int (g : Nat), .int most, .int (many : Nat), .int b, .int left, .lst true (es.map (lwD b)), x, y, z, w, .un]) Q) := by
  unfold b_L_lottery
  dsimp only
  rw [go_cons]; simp! only []
  obtain ⟨d', ns, hd', hnl, hnr, hnb, eo⟩ := call_outL (d := d) (sz := sz) (g := g) (rest := [.int most, .int (many : Nat), .int b, .int (left - piece), .lst true (es.map (lwD b)), .int (k : Nat), .int piece, x, y, .un]) hd hs hl (by omega) hc
  rw [go_cons]; simp! only [hd.un, eo]
  rw [go_ali]
  have hx : ∀ xs : List D, ownItems (.lst true xs) = some xs := fun _ => rfl
  have hll : es.length < 1000000 := by have := hp.few; omega
  have hnr' : ∀ n ∈ ns, 0 ≤ n ∧ n ≤ 20 := fun n hn => by have := hnr n hn; omega
  cases hf : firstT (es.map fun e => decide (e.2 = ns)) with
  | none =>
    have hn : ∀ e ∈ es, e.2 ≠ ns := fun e he => by have := firstT_none (p := fun e : Int × List Int => decide (e.2 = ns)) hf e he; simpa using this
    simp! only [aliD, aliBs_lw, hf, hll]
    rw [go_cons]; simp! only [isOwnL, app1, hll]
    exact ⟨d', es ++ [(piece, ns)], left - piece, _, _, _, _, hd', hp.add h1 hlo hhi hnl hnr' hnb hn, by rw [List.map_append]; rfl⟩
  | some i =>
    have hfs := firstT_some (p := fun e : Int × List Int => decide (e.2 = ns)) hf
    obtain ⟨e, he, hq⟩ := hfs
    have hei : (es.map (lwD b))[i]? = some (.lst true [.int e.1, .int b, .lst false (e.2.map D.int)]) := by rw [List.getElem?_map, he]; rfl
    simp! only [aliD, aliBs_lw, hf, hll, hei, asInt]
    exact ⟨d', es.set i (e.1 + piece, e.2), left - piece, _, _, _, _, hd', hp.up h1 hlo hhi he, by rw [List.map_set]; rfl⟩
theorem lottery_ok {d : D} {sz : List Int} {g : Nat} {most : Int} (hd : StOk d) (hs : ∀ x ∈ sz, 1 ≤ x ∧ x ≤ 12) (hl : sz.length ≤ 6) (hg : g ≤ 20) (hc : Can sz g) (hm : 1 ≤ most) (hm2 : most ≤ 4) :
    ∃ o, m_L_lottery [d, .lst false (sz.map D.int), .int (g : Nat), .int most] = some o ∧ ∃ d' b es, StOk d' ∧ LotG sz g b es ∧ o = .ret (.lst true (es.map (lwD b))) [d'] := by
  unfold m_L_lottery; refine fn_goE ?_; unfold b_L_lottery n_L_lottery
  obtain ⟨v1, d1, hd1, v10, v11, e1⟩ := call_pullL (d := d) (many := most) (s := 0) (t := 3) (rs := [d, .lst false (sz.map D.int), .int (g : Nat), .int most, .un, .un, .un, .un, .un, .un, .un, .un, .un]) hd (by omega) rfl rfl (by decide)
  obtain ⟨many, hmany⟩ : ∃ many : Nat, 1 + v1 = (many : Nat) := ⟨(1 + v1).toNat, by omega⟩
  rw [go_cons]; simp! only [hd.un, e1, hmany]
  obtain ⟨v2, d2, hd2, v20, v21, e2⟩ := call_pull (d := d1) (many := 101 - (many : Int)) (s := 0) (rs := [d1, .lst false (sz.map D.int), .int (g : Nat), .int most, .int (many : Nat), .un, .un, .un, .un, .un, .un, .un, .un]) hd1 (by omega) rfl
  obtain ⟨b, hb⟩ : ∃ b : Int, (many : Int) + v2 = b := ⟨_, rfl⟩
  rw [go_cons]; simp! only [hd1.un, e2, hb]
  rw [go_cons]; simp! only []
  rw [go_cons]; simp! only []
  have r2 : rngB ((many : Nat) : Int) = true := rngB_len (by omega)
  rw [go_cons]; simp! only [r2]
  refine go_rng0 (P := fun k rs => ∃ d es left x y z w, StOk d ∧ LotP sz g b es left k many ∧ rs = [d, .lst false (sz.map D.int), .int (g : Nat), .int most, .int (many : Nat), .int b, .int left, .lst true (es.map (lwD b)), x, y, z, w, .un]) ⟨d2, [], b, _, _, _, _, hd2, ⟨by omega, by simp, by simp, by simp, by simp, by simp, by simp, by simp, by omega, by omega⟩, rfl⟩ ?_ ?_
  · rintro k rs hk ⟨d, es, left, x, y, z, w, hd, hp, rfl⟩
    refine ⟨_, rfl, ?_⟩
    rw [go_cons]; simp! only []
    have step : ∀ (d : D) (piece : Int), StOk d → 1 ≤ piece → (k + 1 < many → (many : Int) - (k + 1 : Nat) ≤ left - piece) → (k + 1 = many → left - piece = 0) → _ := fun d piece hd h1 hlo hhi => lot_step (x := z) (y := w) (Q := seqQ (evSs 0 [0] (.cons (.ret (.var 7)) .nil)) fun fl => ∃ o, outFl [true, false, false, false] fl = some o ∧ ∃ d' b es, StOk d' ∧ LotG sz g b es ∧ o = .ret (.lst true (es.map (lwD b))) [d']) (most := most) hd hs hl hg hc (by omega) hp h1 hlo hhi
    unfold b_L_lottery at step
    dsimp only at step
    by_cases hlt : k + 1 < many
    · have hc1 : (k : Int) < (many : Int) - 1 := by omega
      obtain ⟨v, d', hd', v0, v1, ep⟩ := call_pull (d := d) (many := left - many + 1 + k) (s := 0) (rs := [d, .lst false (sz.map D.int), .int (g : Nat), .int most, .int (many : Nat), .int b, .int left, .lst true (es.map (lwD b)), .int (k : Nat), .int left, z, w, .un]) hd (by have := hp.lo hk; omega) rfl
      rw [go_cons]; simp! only [hc1]
      rw [go_cons]; simp! only [hd.un, ep]
      exact step d' (1 + v) hd' (by omega) (fun _ => by have := hp.lo hk; omega) (by omega)
    · have hc1 : ¬ (k : Int) < (many : Int) - 1 := by omega
      rw [go_cons]; simp! only [hc1]
      exact step d left hd (by have := hp.lo hk; omega) (by omega) (by omega)
  · rintro rs ⟨d, es, left, x, y, z, w, hd, hp, rfl⟩
    simp! only []
    have he1 := hp.ne (by omega)
    have he2 := hp.few
    obtain ⟨e, es', rfl⟩ : ∃ e es', es = e :: es' := by
      cases es with
      | nil => simp at he1
      | cons e es' => exact ⟨e, es', rfl⟩
    rw [go_cons]; simp! only []
    refine ⟨_, rfl, d, b, e :: es', hd, ⟨by omega, by omega, he1, by omega, hp.pos, ?_, hp.len, hp.rng, hp.nd, hp.bal⟩, rfl⟩
    have := hp.sum
    have := hp.hi rfl
    omega
/-! ### the sizes -/
def b_L_sizes : Ss := .cons (.asg (.nm 2) (.lc (.nm 4) (.rng1 (.cons (.var 1) (.nil))) (.nil) (.op2 .add (.con (.int 1)) (.call "_law_pull" F_L_pull (.cons (.var 0) (.cons (.con (.int 12)) (.nil))))) [4])) (.cons (.for_ (.nm 3) (.seqL (.cpy (.var 2))) (.cons (.ite (.lnot (.ix (.ix (.call "_law_room" F_L_room (.cons (.var 2) (.cons (.op2 .add (.var 3) (.con (.int 1))) (.nil)))) (.con (.int 0))) (.pk (.op2 .add (.var 3) (.con (.int 1)))))) (.cons (.sto1 2 (.con (.int 0)) (.con (.int 1))) (.nil)) (.nil)) (.nil))) (.cons (.ret (.var 2)) (.nil)))
def n_L_sizes : Nat := 5
def m_L_sizes : List D → Option Out := evFn 0 [true, false] n_L_sizes b_L_sizes
def F_L_sizes : Fn := ⟨[true, false], m_L_sizes⟩
theorem sizes_ok {d : D} {many : Nat} (hd : StOk d) (h1 : 1 ≤ many) (h6 : many ≤ 6) :
    ∃ o, m_L_sizes [d, .int (many : Nat)] = some o ∧ ∃ d' sz, StOk d' ∧ sz.length = many ∧ (∀ z ∈ sz, 1 ≤ z ∧ z ≤ 12) ∧ (∀ z ∈ sz, Can sz (z + 1)) ∧ o = .ret (.lst true (sz.map D.int)) [d'] := by
  have r2 : rngB ((many : Nat) : Int) = true := rngB_len (by omega)
  unfold m_L_sizes; refine fn_goE ?_; unfold b_L_sizes n_L_sizes
  rw [go_cons]; simp! only [r2]
  refine go_lc (P := fun i rs acc => ∃ d ns, StOk d ∧ ns.length = i ∧ (∀ n ∈ ns, 1 ≤ n ∧ n ≤ 12) ∧ acc = ns.map D.int ∧ rs = [d, .int (many : Nat), .un, .un, .un]) ⟨d, [], hd, rfl, by simp, rfl, rfl⟩ ?_ ?_
  · rintro i c rs acc hi ⟨d, ns, hd, hl, hb, rfl, rfl⟩
    have hi2 : i < many := by
      have := (List.getElem?_eq_some_iff.mp hi).1
      simpa [rngD] using this
    obtain ⟨v, d', hd', v0, v1, ep⟩ := call_pull (d := d) (many := 12) (s := 0) (rs := [d, .int (many : Nat), .un, .un, c]) hd (by decide) rfl
    rw [lcP_eq]
    simp! only [hd.un, ep]
    refine ⟨by omega, d', ns ++ [1 + v], hd', by simp [hl], ?_, by simp, rfl⟩
    intro n hn
    rcases List.mem_append.mp hn with hn | hn
    · exact hb n hn
    · simp at hn; omega
  rintro rs acc ⟨d, ns, hd, hl, hb, rfl, rfl⟩
  have hl : ns.length = many := by simpa [rngD] using hl
  simp! only []
  rw [go_cons]; simp! only [isFzs_ints]
  refine go_for (P := fun j rs => ∃ cur x, (∀ n ∈ cur, 1 ≤ n ∧ n ≤ 12) ∧ (cur : List Int).length = many ∧ ((cur = ns ∧ ∀ z ∈ ns.take j, Can cur (z + 1)) ∨ ∃ tl, cur = 1 :: tl) ∧ rs = [d, .int (many : Nat), .lst true (cur.map D.int), x, .un]) ⟨ns, _, hb, hl, .inl ⟨rfl, by simp⟩, rfl⟩ ?_ ?_
  · rintro j z rs hj ⟨cur, x, hc, hcl, hor, rfl⟩
    refine ⟨_, rfl, ?_⟩
    have hz := hb z (List.mem_of_getElem? hj)
    obtain ⟨g, hg⟩ : ∃ g : Nat, z + 1 = (g : Nat) := ⟨(z + 1).toNat, by omega⟩
    have ec := call_room (sz := cur) (g := g) (rs := [d, .int (many : Nat), .lst true (cur.map D.int), .int z, .un]) (A := .loc 2) (B := .tmp (.int (g : Nat))) hc (by omega) (by omega) (by rw [res_loc rfl]; simp only [fz, fzs_ints]) rfl
    have e1 : L2.atI (canL true cur g) 0 = some (rowB true cur g) := at_canL (i := 0) (by omega) rfl
    have e2 := at_bls (g := g + 1) (t := g) (k := (g : Nat)) (fun t => canB cur (t : Nat)) (by omega) rfl
    cases hcb : canB cur (g : Nat) with
    | true =>
      rw [hcb] at e2
      rw [go_cons]; simp! only [hg, ec, e1, it_rowB, e2]
      refine ⟨cur, _, hc, hcl, ?_, rfl⟩
      rcases hor with ⟨h1, h2⟩ | h
      · refine .inl ⟨h1, ?_⟩
        intro y hy
        rw [List.take_succ, hj] at hy
        rcases List.mem_append.mp hy with hy | hy
        · exact h2 y hy
        · simp at hy
          subst hy
          rw [hg]
          exact canB_iff.mp hcb
      · exact .inr h
    | false =>
      rw [hcb] at e2
      rw [go_cons]; simp! only [hg, ec, e1, it_rowB, e2]
      obtain ⟨c, tl, rfl⟩ : ∃ c tl, cur = c :: tl := by
        cases cur with
        | nil => simp at hcl; omega
        | cons c tl => exact ⟨c, tl, rfl⟩
      have ix0 : L2.ixN (tl.length + 1) 0 = some 0 := by
        unfold L2.ixN; rw [if_pos (by omega), if_pos (by simp)]; rfl
      rw [go_cons]; simp! only [asInt, ix0]
      refine ⟨1 :: tl, _, ?_, hcl, .inr ⟨tl, rfl⟩, rfl⟩
      intro n hn
      rcases List.mem_cons.mp hn with rfl | hn
      · omega
      · exact hc n (List.mem_cons_of_mem _ hn)
  · rintro rs ⟨cur, x, hc, hcl, hor, rfl⟩
    rw [List.take_length] at hor
    simp! only []
    obtain ⟨c, tl, rfl⟩ : ∃ c tl, cur = c :: tl := by
      cases cur with
      | nil => simp at hcl; omega
      | cons c tl => exact ⟨c, tl, rfl⟩
    rw [go_cons]; simp! only []
    refine ⟨_, rfl, d, c :: tl, hd, hcl, hc, ?_, rfl⟩
    intro z hz
    rcases hor with ⟨h1, h2⟩ | ⟨tl', h⟩
    · subst h1
      exact h2 z hz
    · rw [h]
      exact can_one (by have := hc z hz; omega)
end Pv

set_option maxHeartbeats 4000000
namespace Pv
local macro_rules
  | `(tactic| simp! only [$ls,*] $[$loc:location]?) => `(tactic| simp -implicitDefEqProofs only [evS, evT, evE, evP, evPs, evV, evA, evAnd, evOr, evI, Pv.a0, Pv.a1, Pv.v0, Pv.v1, opd, slotOf, satOp, Pv.two, Pv.one, ob_s, ob_n, sc_int, sc_bl, sc_str, sc_non, bd_ok, bd_exc, thenE_ok, thenE_exc, thenT_ok, thenT_exc, thenA_ok, thenI_ok, fl_nx, fl_ret, fl_exc, fl_bk, fl_ct, fl_nil, evSs_nil, asBl, asInt, un_non, un_bl, un_int, un_str, un_tup, un_lst, un_obj, un_un, fz, fzs, isSc, isScs, isFz, isFzs, isOwn, isOwns, dNeg, dT, tgA, setAll, okS, res, at2, it_tup, it_lst, chnD, lItems, tmps, cpyLoc, cpyTmp, ixTmp, ioPos, wipeD, out_ret, out_nx, out_exc, outsOf, and_self, and_true, true_and, false_and, and_false, fzs_ints, Pv.sto1, Pv.sto2, ownItems, at2_0, at2_1, at3_0, at3_1, at3_2, at4_0, at4_1, at4_2, at4_3, ix_20, ix_21, ix_40, ix_41, ix_42, ix_43, List.length_map, isFzs, d2_add, d2_sub, d2_lt, d2_le, d2_gt, d2_ge, d2_eq, d2_ne, d2_eqs, d2_eqb, d2_isn_non, d2_isn_int, d2_isn_bl, d2_isn_str, d2_isn_tup, d2_isn_lst, d2_notn_non, d2_notn_int, d2_notn_bl, d2_notn_str, d2_notn_tup, d2_notn_lst, d2_mod, d2_fdiv, Int.reduceToNat, Int.reducePow, Int.reduceEq, Int.reduceLT, Int.reduceLE, Int.reduceNeg, Int.reduceMul, Int.reduceAdd, Int.reduceSub, cst0, cst1, cst2, cst3, cst4, cst5, cst6, cst7, cst8, cst9, cst10, cst11, cst12, go_some, go_nil, sq_nx, sq_ret, sq_exc, sq_bk, sq_ct, lq_nx, lq_ct, lq_bk, lq_ret, lq_exc, lcD_eq, lcR_some, Int.toNat_natCast, ne_eq, not_false_eq_true, not_true_eq_false, dF_gcd, dF_lenL, dF_lenT, dF_int, dF_intb, dF_abs, dF_min, dF_max, dI_ii, dI_ib, dI_is, dI_il, dI_it, dI_bi, dI_bb, dI_bs, dI_bl, dI_bt, dI_si, dI_sb, dI_ss, dI_sl, dI_st, dI_li, dI_lb, dI_ls, dI_ll, dI_lt, dI_ti, dI_tb, dI_ts, dI_tl, dI_tt, dI_ni, dI_nb, dI_ns, dI_nl, dI_nt, Option.map_some, List.length_cons, List.length_nil, List.getElem?_cons_zero, List.getElem?_cons_succ, List.getElem?_nil, List.set_cons_zero, List.set_cons_succ, List.set_nil, List.map_cons, List.map_nil, List.cons_append, List.nil_append, List.append_nil, List.replicate, List.getD_cons_zero, List.getD_cons_succ, List.contains_nil, List.contains_cons, Nat.reduceBEq, Bool.or_false, Bool.false_or, Bool.or_self, Bool.or_true, Bool.true_or, List.isEmpty_nil, List.isEmpty_cons, decide_true, decide_false, if_true, if_false, Bool.false_eq_true, Bool.not_true, Bool.not_false, Bool.and_true, Bool.true_and, Bool.and_self, Bool.and_false, Bool.false_and, reduceIte, Nat.zero_add, Nat.reduceAdd, Nat.reduceSub, Nat.reduceLT, Nat.reduceLeDiff, Nat.reduceEqDiff, decide_eq_true_eq, eq_self, Option.some.injEq, reduceCtorEq, Nat.lt_irrefl, fzs_len, $ls,*] $[$loc]?)
open PySem
--@ev fzs_len
/-! ### a tree -/
def treeSz (n : Nat) : List Int := (List.range n).map fun k => ((n + k : Nat) : Int)
def treeOut (n k : Nat) : List Int := (List.range n).map fun j => if k + 1 = n ∧ j = 0 then 2 else if j = k + 1 then 1 else 0
def treeLot (n k : Nat) : Lot := (1, [(1, treeOut n k)])
def treeLots (n : Nat) : List Lot := (List.range n).map (treeLot n)
/-- a lottery of the law's -/
def lotW (l : Lot) : D := .lst true (l.2.map (lwD l.1))
def lbD (o : Bool) (sz : List Int) (ls : List Lot) : D := .lst true [.lst o (sz.map D.int), .lst true (ls.map lotW)]
def b_L_tree : Ss := .cons (.asg (.nm 1) (.lc (.nm 3) (.rng1 (.cons (.var 0) (.nil))) (.nil) (.pk (.op2 .add (.var 0) (.var 3))) [3])) (.cons (.asg (.nm 2) (.lst (.nil))) (.cons (.for_ (.nm 3) (.rng1 (.cons (.var 0) (.nil))) (.cons (.asg (.nm 4) (.lc (.nm 5) (.rng1 (.cons (.var 0) (.nil))) (.nil) (.pk (.fnc .int (.cons (.op2 .eq (.var 5) (.op2 .add (.var 3) (.con (.int 1)))) (.nil)))) [5])) (.cons (.ite (.pk (.op2 .eq (.var 3) (.op2 .sub (.var 0) (.con (.int 1))))) (.cons (.sto1 4 (.con (.int 0)) (.con (.int 2))) (.nil)) (.nil)) (.cons (.app 2 (.lst (.cons (.lst (.cons (.con (.int 1)) (.cons (.con (.int 1)) (.cons (.var 4) (.nil))))) (.nil)))) (.nil))))) (.cons (.ret (.lst (.cons (.var 1) (.cons (.var 2) (.nil))))) (.nil))))
def n_L_tree : Nat := 6
def m_L_tree : List D → Option Out := evFn 0 [false] n_L_tree b_L_tree
def F_L_tree : Fn := ⟨[false], m_L_tree⟩
theorem tree_bal : ∀ n : Fin 7, ∀ k : Fin n.val, dot (treeSz n.val) (treeOut n.val k.val) = n.val + k.val + 1 := by decide +kernel
theorem tree_ok {n : Nat} (h1 : 1 ≤ n) (h6 : n ≤ 6) : BkOk (treeSz n) (treeLots n) := by
  refine ⟨by simpa [treeSz] using h1, by simpa [treeSz] using h6, ?_, by simp [treeSz, treeLots], ?_⟩
  · intro z hz
    obtain ⟨k, hk, rfl⟩ := List.mem_map.mp hz
    rw [List.mem_range] at hk
    omega
  · intro k l hk
    obtain ⟨hl, e⟩ := List.getElem?_eq_some_iff.mp hk
    have hkn : k < n := by simpa [treeLots] using hl
    have el : l = treeLot n k := by rw [← e]; simp [treeLots]
    subst el
    refine ⟨by simp [treeLot], by simp [treeLot], by simp [treeLot], by simp [treeLot], by simp [treeLot], by simp [treeLot], by simp [treeLot, treeOut, treeSz], ?_, by simp [treeLot], ?_⟩
    · intro e he m hm
      simp [treeLot] at he
      subst he
      obtain ⟨j, hj, rfl⟩ := List.mem_map.mp hm
      split
      · decide
      · split <;> decide
    · intro e he z hz
      simp [treeLot] at he
      subst he
      have hb := tree_bal ⟨n, by omega⟩ ⟨k, hkn⟩
      dsimp only at hb
      rw [hb]
      unfold treeSz at hz
      rw [List.getElem?_map, List.getElem?_range hkn] at hz
      simp at hz
      omega
theorem L_tree_ok {n : Nat} (h1 : 1 ≤ n) (h6 : n ≤ 6) : m_L_tree [.int (n : Nat)] = some (.ret (lbD true (treeSz n) (treeLots n)) []) := by
  have r2 : rngB ((n : Nat) : Int) = true := rngB_len (by omega)
  unfold m_L_tree; refine fn_go ?_; unfold b_L_tree n_L_tree
  rw [go_cons]; simp! only [r2]
  rw [lc_rng (fun k => .int ((n + k : Nat) : Int)) (by omega) (fun j acc hj ha => by
    rw [lcP_eq]
    simp! only [Int.natCast_add]
    first | exact ha | exact ⟨ha, by first | trivial | rfl⟩ | exact ⟨ha, by first | trivial | rfl, by first | trivial | rfl⟩)]
  simp! only []
  rw [go_cons]; simp! only []
  rw [go_cons]; simp! only [r2]
  refine go_rng0 (P := fun k rs => ∃ x y z, rs = [.int (n : Nat), .lst true ((List.range n).map fun k => .int ((n + k : Nat) : Int)), .lst true (((List.range k).map (treeLot n)).map lotW), x, y, z]) ⟨_, _, _, rfl⟩ ?_ ?_
  · rintro k rs hk ⟨x, y, z, rfl⟩
    refine ⟨_, rfl, ?_⟩
    rw [go_cons]; simp! only [r2]
    rw [lc_rng (fun j => .int (if j = k + 1 then 1 else 0)) (by omega) (fun j acc hj ha => by
      rw [lcP_eq]
      have e1 : decide ((j : Int) = (k : Int) + 1) = decide (j = k + 1) := by
        apply decide_eq_decide.mpr; omega
      simp! only [e1]
      first | exact ha | exact ⟨ha, by first | trivial | rfl⟩ | exact ⟨ha, by first | trivial | rfl, by first | trivial | rfl⟩)]
    simp! only []
    have fin : ((List.range (k + 1)).map (treeLot n)).map lotW = ((List.range k).map (treeLot n)).map lotW ++ [lotW (treeLot n k)] := by
      rw [List.range_succ]; simp
    have ll : k < 1000000 := by omega
    by_cases hl : k + 1 = n
    · have hc : (k : Int) = (n : Int) - 1 := by omega
      have ix0 : L2.ixN n 0 = some 0 := by
        unfold L2.ixN; rw [if_pos (by omega), if_pos (by omega)]; rfl
      rw [go_cons]; simp! only [hc]
      rw [go_cons]; simp! only [asInt, List.length_range, ix0]
      have eo : ((List.range n).map fun j => D.int (if j = k + 1 then 1 else 0)).set 0 (.int 2) = (treeOut n k).map D.int := by
        rw [set_rng]
        unfold treeOut
        rw [List.map_map]
        apply List.map_congr_left
        intro j _
        simp only [Function.comp_apply, hl, true_and]
        split <;> simp_all
      rw [eo]
      rw [go_cons]; simp! only [isOwnL, app1, List.length_range, ll]
      exact ⟨_, _, _, by rw [fin]; rfl⟩
    · have hc : ¬ (k : Int) = (n : Int) - 1 := by omega
      rw [go_cons]; simp! only [hc]
      have eo : ((List.range n).map fun j => D.int (if j = k + 1 then 1 else 0)) = (treeOut n k).map D.int := by
        unfold treeOut
        rw [List.map_map]
        apply List.map_congr_left
        intro j _
        simp [hl]
      rw [eo]
      rw [go_cons]; simp! only [isOwnL, app1, List.length_range, ll]
      exact ⟨_, _, _, by rw [fin]; rfl⟩
  · rintro rs ⟨x, y, z, rfl⟩
    simp! only []
    rw [go_cons]; simp! only []
    simp only [lbD, treeSz, treeLots, List.map_map, Function.comp_def]
end Pv

set_option maxHeartbeats 4000000
namespace Pv
local macro_rules
  | `(tactic| simp! only [$ls,*] $[$loc:location]?) => `(tactic| simp -implicitDefEqProofs only [evS, evT, evE, evP, evPs, evV, evA, evAnd, evOr, evI, Pv.a0, Pv.a1, Pv.v0, Pv.v1, opd, slotOf, satOp, Pv.two, Pv.one, ob_s, ob_n, sc_int, sc_bl, sc_str, sc_non, bd_ok, bd_exc, thenE_ok, thenE_exc, thenT_ok, thenT_exc, thenA_ok, thenI_ok, fl_nx, fl_ret, fl_exc, fl_bk, fl_ct, fl_nil, evSs_nil, asBl, asInt, un_non, un_bl, un_int, un_str, un_tup, un_lst, un_obj, un_un, fz, fzs, isSc, isScs, isFz, isFzs, isOwn, isOwns, dNeg, dT, tgA, setAll, okS, res, at2, it_tup, it_lst, chnD, lItems, tmps, cpyLoc, cpyTmp, ixTmp, ioPos, wipeD, out_ret, out_nx, out_exc, outsOf, and_self, and_true, true_and, false_and, and_false, fzs_ints, Pv.sto1, Pv.sto2, ownItems, at2_0, at2_1, at3_0, at3_1, at3_2, at4_0, at4_1, at4_2, at4_3, ix_20, ix_21, ix_40, ix_41, ix_42, ix_43, List.length_map, isFzs, d2_add, d2_sub, d2_lt, d2_le, d2_gt, d2_ge, d2_eq, d2_ne, d2_eqs, d2_eqb, d2_isn_non, d2_isn_int, d2_isn_bl, d2_isn_str, d2_isn_tup, d2_isn_lst, d2_notn_non, d2_notn_int, d2_notn_bl, d2_notn_str, d2_notn_tup, d2_notn_lst, d2_mod, d2_fdiv, Int.reduceToNat, Int.reducePow, Int.reduceEq, Int.reduceLT, Int.reduceLE, Int.reduceNeg, Int.reduceMul, Int.reduceAdd, Int.reduceSub, cst0, cst1, cst2, cst3, cst4, cst5, cst6, cst7, cst8, cst9, cst10, cst11, cst12, go_some, go_nil, sq_nx, sq_ret, sq_exc, sq_bk, sq_ct, lq_nx, lq_ct, lq_bk, lq_ret, lq_exc, lcD_eq, lcR_some, Int.toNat_natCast, ne_eq, not_false_eq_true, not_true_eq_false, dF_gcd, dF_lenL, dF_lenT, dF_int, dF_intb, dF_abs, dF_min, dF_max, dI_ii, dI_ib, dI_is, dI_il, dI_it, dI_bi, dI_bb, dI_bs, dI_bl, dI_bt, dI_si, dI_sb, dI_ss, dI_sl, dI_st, dI_li, dI_lb, dI_ls, dI_ll, dI_lt, dI_ti, dI_tb, dI_ts, dI_tl, dI_tt, dI_ni, dI_nb, dI_ns, dI_nl, dI_nt, Option.map_some, List.length_cons, List.length_nil, List.getElem?_cons_zero, List.getElem?_cons_succ, List.getElem?_nil, List.set_cons_zero, List.set_cons_succ, List.set_nil, List.map_cons, List.map_nil, List.cons_append, List.nil_append, List.append_nil, List.replicate, List.getD_cons_zero, List.getD_cons_succ, List.contains_nil, List.contains_cons, Nat.reduceBEq, Bool.or_false, Bool.false_or, Bool.or_self, Bool.or_true, Bool.true_or, List.isEmpty_nil, List.isEmpty_cons, decide_true, decide_false, if_true, if_false, Bool.false_eq_true, Bool.not_true, Bool.not_false, Bool.and_true, Bool.true_and, Bool.and_self, Bool.and_false, Bool.false_and, reduceIte, Nat.zero_add, Nat.reduceAdd, Nat.reduceSub, Nat.reduceLT, Nat.reduceLeDiff, Nat.reduceEqDiff, decide_eq_true_eq, eq_self, Option.some.injEq, reduceCtorEq, Nat.lt_irrefl, $ls,*] $[$loc]?)
open PySem
abbrev b_whole_matrix_12 : Ss := .cons (.ret (.tup (.cons (.var 6) (.cons (.var 1) (.nil))))) (.nil)
abbrev b_whole_matrix_11 : Ss := .cons (.saug2 6 (.var 9) (.var 7) .add (.op2 .mul (.var 8) (.ix (.var 4) (.var 9)))) (.nil)
abbrev b_whole_matrix_10 : Ss := .cons (.for_ (.nm 9) (.rng1 (.cons (.var 5) (.nil))) (b_whole_matrix_11)) (.nil)
abbrev b_whole_matrix_9 : Ss := .cons (.asg (.nm 8) (.op2 .mul (.pk (.op2 .mul (.ix (.var 3) (.con (.int 0))) (.op2 .fdiv (.var 1) (.ix (.var 3) (.con (.int 1)))))) (.ix (.fld 0 "Book" "sizes") (.var 7)))) (b_whole_matrix_10)
abbrev b_whole_matrix_8 : Ss := .cons (.for_ (.tp [3, 4]) (.seqL (.ix (.fld 0 "Book" "lots") (.var 7))) (b_whole_matrix_9)) (.nil)
abbrev b_whole_matrix_7 : Ss := .cons (.sto2 6 (.var 7) (.var 7) (.op2 .mul (.pk (.neg (.var 1))) (.ix (.fld 0 "Book" "sizes") (.var 7)))) (b_whole_matrix_8)
abbrev b_whole_matrix_6 : Ss := .cons (.for_ (.nm 7) (.rng1 (.cons (.var 5) (.nil))) (b_whole_matrix_7)) (b_whole_matrix_12)
abbrev b_whole_matrix_5 : Ss := .cons (.asg (.nm 6) (.lc (.nm 9) (.rng1 (.cons (.var 5) (.nil))) (.nil) (.lc (.nm 7) (.rng1 (.cons (.var 5) (.nil))) (.nil) (.con (.int 0)) [7]) [9])) (b_whole_matrix_6)
abbrev b_whole_matrix_4 : Ss := .cons (.asg (.nm 5) (.fnc .len (.cons (.fld 0 "Book" "sizes") (.nil)))) (b_whole_matrix_5)
abbrev b_whole_matrix_3 : Ss := .cons (.asg (.nm 1) (.pk (.op2 .mul (.op2 .fdiv (.var 1) (.fnc .gcd (.cons (.var 1) (.cons (.ix (.var 3) (.con (.int 1))) (.nil))))) (.ix (.var 3) (.con (.int 1)))))) (.nil)
abbrev b_whole_matrix_2 : Ss := .cons (.for_ (.tp [3, 4]) (.seqL (.var 2)) (b_whole_matrix_3)) (.nil)
abbrev b_whole_matrix_1 : Ss := .cons (.for_ (.nm 2) (.seqL (.fld 0 "Book" "lots")) (b_whole_matrix_2)) (b_whole_matrix_4)
abbrev b_whole_matrix : Ss := .cons (.asg (.nm 1) (.con (.int 1))) (b_whole_matrix_1)
def n_whole_matrix : Nat := 10
def m_whole_matrix : List D → Option Out := evFn 0 [false] n_whole_matrix b_whole_matrix
def F_whole_matrix : Fn := ⟨[false], m_whole_matrix⟩
/-! ### squares of numbers -/
def rowD (o : Bool) (n : Nat) (f : Nat → Int) : D := .lst o ((List.range n).map fun i => .int (f i))
def rowsD (o : Bool) (n : Nat) (F : Nat → Nat → Int) : D := .lst o ((List.range n).map fun j => rowD o n (F j))
theorem fz_rowD (o : Bool) (n : Nat) (f : Nat → Int) : fz (rowD o n f) = rowD false n f := by
  simp only [rowD, fz]
  rw [fzs_mapF _ fun _ => rfl]
theorem fz_rowsD (o : Bool) (n : Nat) (F : Nat → Nat → Int) : fz (rowsD o n F) = rowsD false n F := by
  simp only [rowsD, fz]
  rw [fzs_mapG _ (fun j => rowD false n (F j)) fun j => fz_rowD o n (F j)]
theorem un_rowD (o : Bool) (n : Nat) (F : Nat → Int) : isUn (rowD o n F) = false := rfl
theorem un_rowsD (o : Bool) (n : Nat) (F : Nat → Nat → Int) : isUn (rowsD o n F) = false := rfl
theorem at2_rows {o : Bool} {n j : Nat} {F : Nat → Nat → Int} (h : j < n) : at2 (rowsD o n F) (.int (j : Nat)) = some (rowD o n (F j)) := at_rng _ h
theorem at2_row {o : Bool} {n j : Nat} {F : Nat → Int} (h : j < n) : at2 (rowD o n F) (.int (j : Nat)) = some (.int (F j)) := at_rng (fun i => D.int (F i)) h
theorem it_rows {o : Bool} {n : Nat} {F : Nat → Nat → Int} : itemsOf (rowsD o n F) = some ((List.range n).map fun j => rowD o n (F j)) := rfl
theorem it_row {o : Bool} {n : Nat} {F : Nat → Int} : itemsOf (rowD o n F) = some ((List.range n).map fun i => .int (F i)) := rfl
def upd2 (F : Nat → Nat → Int) (a b : Nat) (v : Int) : Nat → Nat → Int := fun j i => if j = a ∧ i = b then v else F j i
theorem get_rng {A : Type} {n a : Nat} (f : Nat → A) (ha : a < n) : ((List.range n).map f)[a]? = some (f a) := by rw [List.getElem?_map, List.getElem?_range ha]; rfl
theorem rows_set {n a b : Nat} {F : Nat → Nat → Int} {v : Int} (ha : a < n) (hb : b < n) : ((List.range n).map fun j => D.lst true ((List.range n).map fun i => .int (F j i))).set a (.lst true (((List.range n).map fun i => D.int (F a i)).set b (.int v))) = (List.range n).map fun j => D.lst true ((List.range n).map fun i => .int (upd2 F a b v j i)) := by
  rw [set_rng, set_rng]
  unfold upd2
  congr 1
  funext j
  by_cases q : j = a
  · subst q
    simp only [if_true, true_and]
    congr 2
    funext i
    split <;> simp_all
  · simp [q]
theorem fzs_rows {n : Nat} {F : Nat → Nat → Int} : fzs ((List.range n).map fun j => D.lst true ((List.range n).map fun i => .int (F j i))) = (List.range n).map fun j => D.lst false ((List.range n).map fun i => .int (F j i)) := fzs_mapG _ (fun j => D.lst false ((List.range n).map fun i => .int (F j i))) (fun j => by simp only [fz]; rw [fzs_mapF _ fun _ => rfl]) _
/-! ### the bottom -/
def shares (l : Lot) : List (Int × Int) := (sortE l.1 l.2).map fun e => lowI e.1 l.1
def lcmF (r : Nat) (l : List (Int × Int)) : Nat := l.foldl (fun r p => Nat.lcm r p.2.natAbs) r
def botP (ls : List Lot) : Nat := lcmF 1 (ls.flatMap shares)
def L100 : Nat := (List.range 100).foldl (fun r i => Nat.lcm r (i + 1)) 1
theorem L100_eq : L100 = 69720375229712477164533808935312303556800 := by decide +kernel
theorem dvd_L100 {d : Nat} (h1 : 1 ≤ d) (h2 : d ≤ 100) : d ∣ L100 := by
  rw [L100_eq]
  have : ∀ i : Fin 100, (i.val + 1) ∣ 69720375229712477164533808935312303556800 := by decide +kernel
  have := this ⟨d - 1, by omega⟩
  simpa [show d - 1 + 1 = d by omega] using this
theorem lowI_den {a b : Int} (hb : 1 ≤ b) (hb2 : b ≤ 100) : 1 ≤ (lowI a b).2 ∧ (lowI a b).2 ≤ 100 ∧ (lowI a b).2 ∣ b := by
  obtain ⟨g, hg, ea, eb, p1, c1⟩ := low_spec (a := a) hb
  refine ⟨p1, ?_, ⟨g, by rw [Int.mul_comm]; exact eb⟩⟩
  have : 1 * (lowI a b).2 ≤ g * (lowI a b).2 := Int.mul_le_mul_of_nonneg_right hg (by omega)
  omega
theorem shares_den {sz : List Int} {k : Nat} {l : Lot} (h : LotOk sz k l.1 l.2) {p : Int × Int} (hp : p ∈ shares l) : 1 ≤ p.2 ∧ p.2 ≤ 100 := by
  obtain ⟨e, he, rfl⟩ := List.mem_map.mp hp
  exact ⟨(lowI_den h.b1 h.b2).1, (lowI_den h.b1 h.b2).2.1⟩
theorem lcmF_dvd {l : List (Int × Int)} (h : ∀ p ∈ l, 1 ≤ p.2 ∧ p.2 ≤ 100) {r : Nat} (hr : r ∣ L100) : lcmF r l ∣ L100 := lcm_bd l r (by rw [L100_eq]; decide) hr fun p hp => dvd_L100 (by have := h p hp; omega) (by have := h p hp; omega)
theorem lcmF_pos {l : List (Int × Int)} (h : ∀ p ∈ l, 1 ≤ p.2) {r : Nat} (hr : 0 < r) : 0 < lcmF r l := lcmB_pos l r hr h
theorem lcmF_bd {l : List (Int × Int)} (h : ∀ p ∈ l, 1 ≤ p.2 ∧ p.2 ≤ 100) {r : Nat} (hr : r ∣ L100) : lcmF r l < 2 ^ 136 := by
  have := Nat.le_of_dvd (by rw [L100_eq]; decide) (lcmF_dvd h hr)
  rw [L100_eq] at this
  omega
theorem lcm_mulok {r : Nat} {d : Int} (hr : r < 2 ^ 136) (h1 : 1 ≤ d) (h2 : d ≤ 100) : mulOk ((r : Int).fdiv (Nat.gcd r d.natAbs : Nat)) d = true := by
  refine mul_of 136 64 ?_ (by omega) (by decide) (by decide)
  rw [Int.fdiv_eq_ediv_of_nonneg _ (by omega)]
  have := Int.natAbs_ediv_le_natAbs (r : Int) (Nat.gcd r d.natAbs : Nat)
  rw [Int.natAbs_natCast] at this
  omega
/-! ### a book as an argument -/
theorem fz_bkD (o : Bool) (sz : List Int) (ls : List Lot) : fz (bkD o sz ls) = bkD false sz ls := by
  simp only [bkD, fz, fzs, fzs_ints, fzs_mapF _ fz_lotFz]
theorem un_bkD (o : Bool) (sz : List Int) (ls : List Lot) : isUn (bkD o sz ls) = false := rfl
theorem isFz_lotFz (l : Lot) : isFz (lotFz l) = true := by
  have := isFz_fz (lotFz l)
  rwa [fz_lotFz] at this
theorem isFz_bkD (sz : List Int) (ls : List Lot) : isFz (bkD false sz ls) = true := by
  have := isFz_fz (bkD false sz ls)
  rwa [fz_bkD] at this
theorem isFzs_lots (ls : List Lot) : isFzs (ls.map lotFz) = true := by
  induction ls with
  | nil => rfl
  | cons l ls ih => simp [isFzs, isFz_lotFz, ih]
theorem fzs_lots (ls : List Lot) : fzs (ls.map lotFz) = ls.map lotFz := fzs_mapF _ fz_lotFz ls
theorem fld_sizes (o : Bool) (sz : List Int) (ls : List Lot) : fldD "Book" "sizes" (bkD o sz ls) = some (.lst false (sz.map D.int)) := by
  simp [fldD, bkD, fIx, ob, ne_sl]
theorem fld_lots (o : Bool) (sz : List Int) (ls : List Lot) : fldD "Book" "lots" (bkD o sz ls) = some (.lst false (ls.map lotFz)) := by
  simp [fldD, bkD, fIx, ob, ne_sl]
theorem it_lotFz (l : Lot) : itemsOf (lotFz l) = some ((sortE l.1 l.2).map (outD l.1)) := rfl
theorem un_lotFz (l : Lot) : isUn (lotFz l) = false := rfl
theorem at_lots {ls : List Lot} {k : Nat} {l : Lot} (h : ls[k]? = some l) : L2.atI (ls.map lotFz) (k : Int) = some (lotFz l) := at_nat (by rw [List.getElem?_map, h]; rfl)
theorem at_getD {ns : List Int} {j : Nat} (h : j < ns.length) : L2.atI (ns.map D.int) (j : Int) = some (.int (ns.getD j 0)) := at_natI (by rw [List.getElem?_eq_getElem h]; simp [h])
theorem isFz_rowsD (n : Nat) (F : Nat → Nat → Int) : isFz (rowsD true n F) = false := rfl
theorem le_sum : ∀ {l : List Int} {x : Int}, (∀ y ∈ l, 0 ≤ y) → x ∈ l → x ≤ l.sum
  | [], _, _, h => by simp at h
  | y :: l, x, h, hx => by
    have h0 := h y List.mem_cons_self
    have h1 : 0 ≤ l.sum := by
      have := (sum_le l l.length fun z hz => h z (List.mem_cons_of_mem y hz)).1
      rwa [List.take_length] at this
    rcases List.mem_cons.mp hx with rfl | hx
    · rw [List.sum_cons]; omega
    · have := le_sum (fun z hz => h z (List.mem_cons_of_mem y hz)) hx
      rw [List.sum_cons]; omega
/-! ### the matrix in integers -/
def colS (bot z : Int) (l : Lot) (j : Nat) (es : List (Int × List Int)) : Int := (es.map fun e => (lowI e.1 l.1).1 * (bot.fdiv (lowI e.1 l.1).2) * z * e.2.getD j 0).sum
def mE (sz : List Int) (ls : List Lot) (j i : Nat) : Int := match ls[i]? with
  | some l => colS (botP ls) (sz.getD i 0) l j (sortE l.1 l.2) + (if j = i then -(botP ls : Int) * sz.getD i 0 else 0)
  | none => 0
theorem colS_take {bot z : Int} {l : Lot} {j m : Nat} {es : List (Int × List Int)} {e : Int × List Int} (h : es[m]? = some e) : colS bot z l j (es.take (m + 1)) = colS bot z l j (es.take m) + (lowI e.1 l.1).1 * (bot.fdiv (lowI e.1 l.1).2) * z * e.2.getD j 0 := by
  unfold colS
  rw [take_map_succ _ h]; simp
theorem BkOk.shd {sz : List Int} {ls : List Lot} (h : BkOk sz ls) : ∀ p ∈ ls.flatMap shares, 1 ≤ p.2 ∧ p.2 ≤ 100 := fun p hp => by
  obtain ⟨l, hl, hp⟩ := List.mem_flatMap.mp hp
  obtain ⟨k, hk⟩ := List.mem_iff_getElem?.mp hl
  exact shares_den (h.lot k l hk) hp
theorem botP_bd {sz : List Int} {ls : List Lot} (h : BkOk sz ls) : 0 < botP ls ∧ botP ls < 2 ^ 136 := ⟨lcmF_pos (fun p hp => (h.shd p hp).1) (by decide), lcmF_bd h.shd (Nat.one_dvd _)⟩
theorem mem_sortE {b : Int} {es : List (Int × List Int)} {e : Int × List Int} : e ∈ sortE b es ↔ e ∈ es := (sortE_perm b es).mem_iff
variable {sz : List Int} {ls : List Lot}
/-- the bottom, lottery by lottery -/
theorem wm_bottom {Q : Fl → Prop} (h : BkOk sz ls) (k : ∀ x y z, Q (.nx [bkD false sz ls, .int (botP ls : Nat), x, y, z, .un, .un, .un, .un, .un])) :
    Go (forL (tgA [] (.nm 2)) (evSs 0 [] b_whole_matrix_2) (ls.map lotFz) [bkD false sz ls, .int 1, .un, .un, .un, .un, .un, .un, .un, .un]) Q := by
  refine go_for (P := fun j rs => ∃ x y z, rs = [bkD false sz ls, .int (lcmF 1 ((ls.take j).flatMap shares) : Nat), x, y, z, .un, .un, .un, .un, .un]) ⟨_, _, _, rfl⟩ ?_ ?_
  · rintro j l rs hj ⟨x, y, z, rfl⟩
    have hlo := h.lot j l hj
    refine ⟨_, rfl, ?_⟩
    generalize hb0 : lcmF 1 ((ls.take j).flatMap shares) = r0
    have hr0 : r0 ∣ L100 ∧ 0 < r0 := by
      subst hb0
      have hq : ∀ p ∈ (ls.take j).flatMap shares, 1 ≤ p.2 ∧ p.2 ≤ 100 := fun p hp => h.shd p (by
        obtain ⟨l, hl, hp⟩ := List.mem_flatMap.mp hp
        exact List.mem_flatMap.mpr ⟨l, List.mem_of_mem_take hl, hp⟩)
      exact ⟨lcmF_dvd hq (Nat.one_dvd _), lcmF_pos (fun p hp => (hq p hp).1) (by decide)⟩
    rw [go_cons]; simp! only [un_lotFz, fz_lotFz, it_lotFz]
    refine go_for (P := fun i rs => ∃ y z, rs = [bkD false sz ls, .int (lcmF r0 ((shares l).take i) : Nat), lotFz l, y, z, .un, .un, .un, .un, .un]) ⟨_, _, rfl⟩ ?_ ?_
    · rintro i e rs hi ⟨y, z, rfl⟩
      refine ⟨_, rfl, ?_⟩
      have hs : (shares l)[i]? = some (lowI e.1 l.1) := by unfold shares; rw [List.getElem?_map, hi]; rfl
      have hd := shares_den hlo (List.mem_of_getElem? hs)
      have hq : ∀ p ∈ (shares l).take i, 1 ≤ p.2 ∧ p.2 ≤ 100 := fun p hp => shares_den hlo (List.mem_of_mem_take hp)
      have hrb := lcmF_bd hq hr0.1
      have hrp := lcmF_pos (fun p hp => (hq p hp).1) hr0.2
      have et : lcmF r0 ((shares l).take (i + 1)) = Nat.lcm (lcmF r0 ((shares l).take i)) (lowI e.1 l.1).2.natAbs := by
        unfold lcmF
        rw [List.take_succ, hs]
        simp
      generalize lcmF r0 ((shares l).take i) = r at *
      have g0 : ((Nat.gcd r (lowI e.1 l.1).2.natAbs : Nat) : Int) ≠ 0 := by
        have := Nat.gcd_pos_of_pos_left (lowI e.1 l.1).2.natAbs hrp
        omega
      have mm := lcm_mulok hrb hd.1 hd.2
      have st := lcm_step hrp hd.1
      rw [go_cons]; simp! only [frD, Int.natAbs_natCast, d2_fdiv g0, d2_mul mm, st]
      exact ⟨_, _, by rw [et]⟩
    · rintro rs ⟨y, z, rfl⟩
      simp! only []
      refine ⟨lotFz l, y, z, ?_⟩
      have e1 : lcmF r0 ((shares l).take (sortE l.1 l.2).length) = lcmF 1 ((ls.take (j + 1)).flatMap shares) := by
        rw [List.take_of_length_le (by unfold shares; simp), List.take_succ, hj, ← hb0]
        unfold lcmF
        simp
      rw [e1]
  · rintro rs ⟨x, y, z, rfl⟩
    rw [List.take_length, show lcmF 1 (ls.flatMap shares) = botP ls from rfl]
    exact k x y z
/-- a line of numbers added to a column -/
theorem wm_line {Q : Fl → Prop} {n k bot : Nat} {x B : D} {p1 p2 part : Int} {os : List Int} {F0 : Nat → Nat → Int} {v : D} (hn : n ≤ 6) (hk : k < n) (hos : os.length = n) (hrng : ∀ o ∈ os, 0 ≤ o ∧ o ≤ 20) (hp : part.natAbs < 2 ^ 160) (hB : isUn B = false)
    (kk : ∀ F v, (∀ j i, j < n → i < n → F j i = F0 j i + if i = k then part * os.getD j 0 else 0) → Q (.nx [B, .int (bot : Nat), x, .tup [.int p1, .int p2], .tup (os.map D.int), .int (n : Nat), rowsD true n F, .int (k : Nat), .int part, v])) :
    Go (forL (tgA [] (.nm 9)) (evSs 0 [] b_whole_matrix_11) (rngD 0 n) [B, .int (bot : Nat), x, .tup [.int p1, .int p2], .tup (os.map D.int), .int (n : Nat), rowsD true n F0, .int (k : Nat), .int part, v]) Q := by
  refine go_rng0 (P := fun t rs => ∃ F v, rs = [B, .int (bot : Nat), x, .tup [.int p1, .int p2], .tup (os.map D.int), .int (n : Nat), rowsD true n F, .int (k : Nat), .int part, v] ∧ ∀ j i, j < n → i < n → F j i = F0 j i + if j < t ∧ i = k then part * os.getD j 0 else 0) ⟨F0, _, rfl, fun j i hj hi => by simp⟩ ?_ ?_
  · rintro t rs ht ⟨F, v, rfl, hF⟩
    refine ⟨_, rfl, ?_⟩
    have hat2 := at_getD (ns := os) (j := t) (by omega)
    have hb20 : 0 ≤ os.getD t 0 ∧ os.getD t 0 ≤ 20 := hrng _ (by rw [List.getD_eq_getElem?_getD, List.getElem?_eq_getElem (show t < os.length by omega)]; exact List.getElem_mem _)
    have m3 : mulOk part (os.getD t 0) = true := mul_of 160 10 hp (by omega) (by decide) (by decide)
    rw [go_cons]; simp! only [rowsD, rowD, fzs_rows, at_rng _ ht, at_rng _ hk, asInt, hB, hat2, d2_mul m3, augI, List.length_range, ixN_nat ht, ixN_nat hk, get_rng _ ht, rows_set ht hk]
    refine ⟨_, _, rfl, fun j i hj hi => ?_⟩
    simp only [upd2]
    by_cases q : j = t ∧ i = k
    · obtain ⟨rfl, rfl⟩ := q
      rw [if_pos ⟨rfl, rfl⟩, hF j i hj hi, if_neg (by omega), if_pos ⟨Nat.lt_succ_self _, rfl⟩]
      omega
    · rw [if_neg q, hF j i hj hi]
      by_cases q1 : j < t ∧ i = k
      · rw [if_pos q1, if_pos (show j < t + 1 ∧ i = k from ⟨by omega, q1.2⟩)]
      · rw [if_neg q1, if_neg (show ¬ (j < t + 1 ∧ i = k) from fun z => by
          rcases Nat.lt_succ_iff_lt_or_eq.mp z.1 with a | a
          · exact q1 ⟨a, z.2⟩
          · exact q ⟨a, z.2⟩)]
  · rintro rs ⟨F, v, rfl, hF⟩
    refine kk F v fun j i hj hi => ?_
    rw [hF j i hj hi]
    simp [hj]
/-- what an entry puts in: bounds -/
theorem entry_bd {k : Nat} {l : Lot} {e : Int × List Int} (hlo : LotOk sz k l.1 l.2) (he : e ∈ l.2) : 1 ≤ e.1 ∧ e.1 ≤ l.1 ∧ l.1 ≤ 100 := by
  have hp0 := hlo.pos e he
  have hb2 := hlo.b2
  have h1 := hlo.sum
  have h2 : e.1 ≤ (l.2.map (·.1)).sum := le_sum (fun x hx => by
    obtain ⟨q, hq, rfl⟩ := List.mem_map.mp hx
    have := hlo.pos q hq
    omega) (List.mem_map_of_mem he)
  omega
theorem wm_col {Q : Fl → Prop} {k : Nat} {l : Lot} {F0 : Nat → Nat → Int} {x y z w v : D} (h : BkOk sz ls) (hk : k < sz.length) (hl : ls[k]? = some l)
    (kk : ∀ F y z w v, (∀ j i, j < sz.length → i < sz.length → F j i = F0 j i + if i = k then colS (botP ls) (sz.getD k 0) l j (sortE l.1 l.2) else 0) → Q (.nx [bkD false sz ls, .int (botP ls : Nat), x, y, z, .int (sz.length : Nat), rowsD true sz.length F, .int (k : Nat), w, v])) :
    Go (forL (tgA [] (.tp [3, 4])) (evSs 0 [] b_whole_matrix_9) ((sortE l.1 l.2).map (outD l.1)) [bkD false sz ls, .int (botP ls : Nat), x, y, z, .int (sz.length : Nat), rowsD true sz.length F0, .int (k : Nat), w, v]) Q := by
  have s6 := h.s6
  have hr : rngB ((sz.length : Nat) : Int) = true := rngB_len (by omega)
  have hbp := botP_bd h
  have hlo := h.lot k l hl
  have hzk := at_getD hk
  have hz12 : 1 ≤ sz.getD k 0 ∧ sz.getD k 0 ≤ 12 := h.sb _ (by rw [List.getD_eq_getElem?_getD, List.getElem?_eq_getElem hk]; exact List.getElem_mem hk)
  generalize sz.getD k 0 = zk at *
  generalize hbot : botP ls = bot at *
  refine go_for (P := fun m rs => ∃ F y z w v, rs = [bkD false sz ls, .int (bot : Nat), x, y, z, .int (sz.length : Nat), rowsD true sz.length F, .int (k : Nat), w, v] ∧ ∀ j i, j < sz.length → i < sz.length → F j i = F0 j i + if i = k then colS bot zk l j ((sortE l.1 l.2).take m) else 0) ⟨F0, _, _, _, _, rfl, fun j i hj hi => by simp [colS]⟩ ?_ ?_
  · rintro m e rs hm ⟨F, y, z, w, v, rfl, hF⟩
    refine ⟨_, rfl, ?_⟩
    have hme := mem_sortE.mp (List.mem_of_getElem? hm)
    have hlen := hlo.len e hme
    have hrng := hlo.rng e hme
    obtain ⟨hp0, hpb, hb2⟩ := entry_bd hlo hme
    have hden := lowI_den (a := e.1) hlo.b1 hb2
    have hnum : (lowI e.1 l.1).1.natAbs < 2 ^ 10 := (lowI_fb (n := 10) (by omega) hlo.b1 (by omega)).1
    have hfd : ((bot : Int).fdiv (lowI e.1 l.1).2).natAbs < 2 ^ 136 := by
      rw [Int.fdiv_eq_ediv_of_nonneg _ (by omega)]
      have := Int.natAbs_ediv_le_natAbs (bot : Int) (lowI e.1 l.1).2
      rw [Int.natAbs_natCast] at this
      omega
    have hd0 : (lowI e.1 l.1).2 ≠ 0 := by omega
    have hct : ∀ j, colS bot zk l j ((sortE l.1 l.2).take (m + 1)) = _ := fun j => colS_take hm
    simp! only [outD, frD]
    generalize (lowI e.1 l.1).1 = p1 at *
    generalize (lowI e.1 l.1).2 = p2 at *
    have m1 : mulOk p1 ((bot : Int).fdiv p2) = true := mul_of 10 136 hnum hfd (by decide) (by decide)
    have b1 := mul_step hnum hfd
    have m2 : mulOk (p1 * (bot : Int).fdiv p2) zk = true := mul_of (10 + 136) 10 b1 (by omega) (by decide) (by decide)
    have b2 := mul_step b1 (show zk.natAbs < 2 ^ 10 by omega)
    rw [go_cons]; simp! only [un_bkD, fld_sizes, isFzs_ints, hzk, d2_fdiv hd0, d2_mul m1, d2_mul m2]
    rw [go_cons]; simp! only [hr]
    refine wm_line (F0 := F) s6 hk hlen hrng (Nat.lt_of_lt_of_le b2 (Nat.pow_le_pow_right (by decide) (by decide))) (un_bkD _ _ _) fun F' v' hF' => ?_
    simp! only []
    refine ⟨F', _, _, _, _, rfl, fun j i hj hi => ?_⟩
    rw [hF' j i hj hi, hF j i hj hi, hct j]
    by_cases q : i = k
    · rw [if_pos q, if_pos q, if_pos q]; omega
    · rw [if_neg q, if_neg q, if_neg q]; omega
  · rintro rs ⟨F, y, z, w, v, rfl, hF⟩
    rw [List.take_length] at hF
    exact kk F y z w v hF
theorem mE_some {j k : Nat} {l : Lot} (hl : ls[k]? = some l) : mE sz ls j k = colS (botP ls) (sz.getD k 0) l j (sortE l.1 l.2) + (if j = k then -(botP ls : Int) * sz.getD k 0 else 0) := by simp only [mE, hl]
theorem wm_kinds {Q : Fl → Prop} {x y z w v1 v2 : D} (h : BkOk sz ls)
    (kk : ∀ F x y z w v1 v2, (∀ j i, j < sz.length → i < sz.length → F j i = mE sz ls j i) → Q (.nx [bkD false sz ls, .int (botP ls : Nat), x, y, z, .int (sz.length : Nat), rowsD true sz.length F, w, v1, v2])) :
    Go (forL (tgA [] (.nm 7)) (evSs 0 [] b_whole_matrix_7) (rngD 0 sz.length) [bkD false sz ls, .int (botP ls : Nat), x, y, z, .int (sz.length : Nat), rowsD true sz.length (fun _ _ => 0), w, v1, v2]) Q := by
  refine go_rng0 (P := fun k rs => ∃ F x y z w v1 v2, rs = [bkD false sz ls, .int (botP ls : Nat), x, y, z, .int (sz.length : Nat), rowsD true sz.length F, w, v1, v2] ∧ ∀ j i, j < sz.length → i < sz.length → F j i = if i < k then mE sz ls j i else 0) ⟨fun _ _ => 0, _, _, _, _, _, _, rfl, by simp⟩ ?_ ?_
  · rintro k rs hk ⟨F, x, y, z, w, v1, v2, rfl, hF⟩
    refine ⟨_, rfl, ?_⟩
    obtain ⟨l, hlk⟩ : ∃ l, ls[k]? = some l := ⟨_, List.getElem?_eq_getElem (by rw [h.ll]; exact hk)⟩
    have hbp := botP_bd h
    have hzk := at_getD hk
    have hz12 : 1 ≤ sz.getD k 0 ∧ sz.getD k 0 ≤ 12 := h.sb _ (by rw [List.getD_eq_getElem?_getD, List.getElem?_eq_getElem hk]; exact List.getElem_mem hk)
    have mm : mulOk (-(botP ls : Int)) (sz.getD k 0) = true := mul_of 136 10 (by omega) (by omega) (by decide) (by decide)
    have hat := at_lots hlk
    rw [go_cons]; simp! only [un_bkD, fld_sizes, isFzs_ints, hzk, d2_mul mm, rowsD, rowD, List.length_range, ixN_nat hk, get_rng _ hk, rows_set hk hk]
    rw [go_cons]; simp! only [un_bkD, fld_lots, isFzs_lots, hat, fz_lotFz, it_lotFz]
    refine wm_col (F0 := upd2 F k k (-(botP ls : Int) * sz.getD k 0)) h hk hlk fun F' y z w v hF' => ?_
    simp! only []
    refine ⟨F', _, _, _, _, _, _, rfl, fun j i hj hi => ?_⟩
    rw [hF' j i hj hi]
    simp only [upd2]
    by_cases q : i = k
    · subst q
      rw [if_pos rfl, if_pos (Nat.lt_succ_self _), mE_some hlk]
      by_cases q2 : j = i
      · rw [if_pos ⟨q2, rfl⟩, if_pos q2]; omega
      · rw [if_neg (fun z => q2 z.1), if_neg q2, hF j i hj hi, if_neg (Nat.lt_irrefl _)]; omega
    · rw [if_neg (fun z => q z.2), if_neg q, hF j i hj hi]
      by_cases q1 : i < k
      · rw [if_pos q1, if_pos (show i < k + 1 by omega)]; omega
      · rw [if_neg q1, if_neg (show ¬ i < k + 1 by omega)]; omega
  · rintro rs ⟨F, x, y, z, w, v1, v2, rfl, hF⟩
    exact kk F x y z w v1 v2 fun j i hj hi => by rw [hF j i hj hi, if_pos hi]
theorem rows_congr {o : Bool} {n : Nat} {F G : Nat → Nat → Int} (h : ∀ j i, j < n → i < n → F j i = G j i) : rowsD o n F = rowsD o n G := by
  unfold rowsD rowD
  congr 1
  apply List.map_congr_left
  intro j hj
  congr 1
  apply List.map_congr_left
  intro i hi
  rw [List.mem_range] at hi hj
  rw [h j i hj hi]
theorem whole_matrix_ok (h : BkOk sz ls) : m_whole_matrix [bkD false sz ls] = some (.ret (.tup [rowsD true sz.length (mE sz ls), .int (botP ls : Nat)]) []) := by
  have s6 := h.s6
  have hr : rngB ((sz.length : Nat) : Int) = true := rngB_len (by omega)
  unfold m_whole_matrix; refine fn_go ?_; unfold b_whole_matrix n_whole_matrix
  rw [go_cons]; simp! only []
  rw [go_cons]; simp! only [un_bkD, fld_lots, isFzs_lots, fzs_lots]
  refine wm_bottom h fun x y z => ?_
  simp! only []
  rw [go_cons]; simp! only [fld_sizes, isFzs_ints]
  rw [go_cons]; simp! only [hr]
  rw [lc_rng (fun _ => rowD true sz.length fun _ => 0) (by omega) (fun j acc hj ha => by
    rw [lcP_eq]
    simp! only [hr]
    rw [lc_rng (fun _ => .int 0) (by omega) (fun j acc hj ha => by
      rw [lcP_eq]
      simp! only []
      first | exact ha | exact ⟨ha, by first | trivial | rfl⟩ | exact ⟨ha, by first | trivial | rfl, by first | trivial | rfl⟩)]
    simp! only []
    first | exact ⟨ha, rfl⟩ | exact ⟨ha, rfl, rfl⟩)]
  simp! only []
  rw [go_cons]; simp! only [hr]
  refine wm_kinds h fun F x y z w v1 v2 hF => ?_
  simp! only []
  rw [rows_congr hF]
  rw [go_cons]; simp! only [un_rowsD, isFz_rowsD]
end Pv

set_option maxHeartbeats 4000000
namespace Pv
local macro_rules
  | `(tactic| simp! only [$ls,*] $[$loc:location]?) => `(tactic| simp -implicitDefEqProofs only [evS, evT, evE, evP, evPs, evV, evA, evAnd, evOr, evI, Pv.a0, Pv.a1, Pv.v0, Pv.v1, opd, slotOf, satOp, Pv.two, Pv.one, ob_s, ob_n, sc_int, sc_bl, sc_str, sc_non, bd_ok, bd_exc, thenE_ok, thenE_exc, thenT_ok, thenT_exc, thenA_ok, thenI_ok, fl_nx, fl_ret, fl_exc, fl_bk, fl_ct, fl_nil, evSs_nil, asBl, asInt, un_non, un_bl, un_int, un_str, un_tup, un_lst, un_obj, un_un, fz, fzs, isSc, isScs, isFz, isFzs, isOwn, isOwns, dNeg, dT, tgA, setAll, okS, res, at2, it_tup, it_lst, chnD, lItems, tmps, cpyLoc, cpyTmp, ixTmp, ioPos, wipeD, out_ret, out_nx, out_exc, outsOf, and_self, and_true, true_and, false_and, and_false, fzs_ints, Pv.sto1, Pv.sto2, ownItems, at2_0, at2_1, at3_0, at3_1, at3_2, at4_0, at4_1, at4_2, at4_3, ix_20, ix_21, ix_40, ix_41, ix_42, ix_43, List.length_map, isFzs, d2_add, d2_sub, d2_lt, d2_le, d2_gt, d2_ge, d2_eq, d2_ne, d2_eqs, d2_eqb, d2_isn_non, d2_isn_int, d2_isn_bl, d2_isn_str, d2_isn_tup, d2_isn_lst, d2_notn_non, d2_notn_int, d2_notn_bl, d2_notn_str, d2_notn_tup, d2_notn_lst, d2_mod, d2_fdiv, Int.reduceToNat, Int.reducePow, Int.reduceEq, Int.reduceLT, Int.reduceLE, Int.reduceNeg, Int.reduceMul, Int.reduceAdd, Int.reduceSub, cst0, cst1, cst2, cst3, cst4, cst5, cst6, cst7, cst8, cst9, cst10, cst11, cst12, go_some, go_nil, sq_nx, sq_ret, sq_exc, sq_bk, sq_ct, lq_nx, lq_ct, lq_bk, lq_ret, lq_exc, lcD_eq, lcR_some, Int.toNat_natCast, ne_eq, not_false_eq_true, not_true_eq_false, dF_gcd, dF_lenL, dF_lenT, dF_int, dF_intb, dF_abs, dF_min, dF_max, dI_ii, dI_ib, dI_is, dI_il, dI_it, dI_bi, dI_bb, dI_bs, dI_bl, dI_bt, dI_si, dI_sb, dI_ss, dI_sl, dI_st, dI_li, dI_lb, dI_ls, dI_ll, dI_lt, dI_ti, dI_tb, dI_ts, dI_tl, dI_tt, dI_ni, dI_nb, dI_ns, dI_nl, dI_nt, Option.map_some, List.length_cons, List.length_nil, List.getElem?_cons_zero, List.getElem?_cons_succ, List.getElem?_nil, List.set_cons_zero, List.set_cons_succ, List.set_nil, List.map_cons, List.map_nil, List.cons_append, List.nil_append, List.append_nil, List.replicate, List.getD_cons_zero, List.getD_cons_succ, List.contains_nil, List.contains_cons, Nat.reduceBEq, Bool.or_false, Bool.false_or, Bool.or_self, Bool.or_true, Bool.true_or, List.isEmpty_nil, List.isEmpty_cons, decide_true, decide_false, if_true, if_false, Bool.false_eq_true, Bool.not_true, Bool.not_false, Bool.and_true, Bool.true_and, Bool.and_self, Bool.and_false, Bool.false_and, reduceIte, Nat.zero_add, Nat.reduceAdd, Nat.reduceSub, Nat.reduceLT, Nat.reduceLeDiff, Nat.reduceEqDiff, decide_eq_true_eq, eq_self, Option.some.injEq, reduceCtorEq, Nat.lt_irrefl, fzs_len, $ls,*] $[$loc]?)
open PySem
--@ev fzs_len
/-! ### the law's book -/
def lwF (b : Int) (e : Int × List Int) : D := .lst false [.int e.1, .int b, .lst false (e.2.map D.int)]
def lotG (l : Lot) : D := .lst false (l.2.map (lwF l.1))
theorem fz_lwD (b : Int) (e : Int × List Int) : fz (lwD b e) = lwF b e := by simp only [lwD, lwF, fz, fzs, fzs_ints]
theorem fz_lwF (b : Int) (e : Int × List Int) : fz (lwF b e) = lwF b e := by simp only [lwF, fz, fzs, fzs_ints]
theorem fz_lotW (l : Lot) : fz (lotW l) = lotG l := by simp only [lotW, lotG, fz, fzs_mapG _ _ (fz_lwD _)]
theorem fz_lotG (l : Lot) : fz (lotG l) = lotG l := by simp only [lotG, fz, fzs_mapF _ (fz_lwF _)]
theorem un_lotG (l : Lot) : isUn (lotG l) = false := rfl
theorem un_lwF (b : Int) (e : Int × List Int) : isUn (lwF b e) = false := rfl
theorem it_lotG (l : Lot) : itemsOf (lotG l) = some (l.2.map (lwF l.1)) := rfl
theorem LotG.ok {sz : List Int} {z : Int} {k : Nat} {b : Int} {es : List (Int × List Int)} (h : LotG sz (z + 1) b es) (hk : sz[k]? = some z) : LotOk sz k b es :=
  ⟨h.b1, h.b2, h.ne, h.few, h.pos, h.sum, h.len, h.rng, h.nd, fun e he y hy => by rw [hk] at hy; cases hy; exact h.bal e he⟩
def b_L_book : Ss := .cons (.asg (.nm 1) (.call "_law_pull" F_L_pull (.cons (.var 0) (.cons (.con (.int 8)) (.nil))))) (.cons (.ite (.pk (.op2 .eq (.var 1) (.con (.int 7)))) (.cons (.ret (.call "_law_tree" F_L_tree (.cons (.op2 .add (.con (.int 1)) (.call "_law_pull" F_L_pull (.cons (.var 0) (.cons (.con (.int 6)) (.nil))))) (.nil)))) (.nil)) (.nil)) (.cons (.asg (.nm 2) (.call "_law_sizes" F_L_sizes (.cons (.var 0) (.cons (.op2 .add (.con (.int 1)) (.call "_law_pull" F_L_pull (.cons (.var 0) (.cons (.con (.int 6)) (.nil))))) (.nil))))) (.cons (.asg (.nm 3) (.con (.int 4))) (.cons (.ite (.pk (.op2 .gt (.var 1) (.con (.int 4)))) (.cons (.asg (.nm 3) (.con (.int 1))) (.nil)) (.nil)) (.cons (.retF (.lst (.cons (.var 2) (.cons (.lc (.nm 4) (.seqL (.var 2)) (.nil) (.call "_law_lottery" F_L_lottery (.cons (.var 0) (.cons (.var 2) (.cons (.pk (.op2 .add (.var 4) (.con (.int 1)))) (.cons (.var 3) (.nil)))))) [4]) (.nil))))) (.nil))))))
def n_L_book : Nat := 5
def m_L_book : List D → Option Out := evFn 0 [true] n_L_book b_L_book
def F_L_book : Fn := ⟨[true], m_L_book⟩
theorem bd_assoc {A B C : Type} {r : Option (Res A)} {f : A → List D → Option (Res B)} {g : B → List D → Option (Res C)} : Res.bd (Res.bd r f) g = Res.bd r fun a rs => Res.bd (f a rs) g := by
  cases r with
  | none => rfl
  | some r => cases r <;> rfl
theorem thenE_bd {r : Option (Res D)} {f : D → List D → Option (Res D)} {g : D → List D → Option Fl} : thenE (Res.bd r f) g = thenE r fun a rs => thenE (f a rs) g := by
  cases r with
  | none => rfl
  | some r => cases r <;> rfl
theorem call_f1 {m : List D → Option Out} {v : D} {rs : List D} {A : D} (hm : m [res rs (.tmp A)] = some (.ret v [])) : callD ⟨[false], m⟩ [.tmp A] rs = some (.ok v rs) := by
  simp [callD, ioOf, nodupB, passD, blank, hm, isOwns, putBack, freezeV]
theorem call_tree {n : Nat} {rs : List D} (h1 : 1 ≤ n) (h6 : n ≤ 6) : callD F_L_tree [.tmp (.int (n : Nat))] rs = some (.ok (lbD true (treeSz n) (treeLots n)) rs) := by
  have e := L_tree_ok h1 h6
  exact call_f1 (by simp only [res, fz]; exact e)
theorem call_i2 {m : List D → Option Out} {d v d' : D} {k : Int} {rest : List D} (e : m [d, .int k] = some (.ret v [d'])) (ev : isOwn v = true) : callD ⟨[true, false], m⟩ [.loc 0, .tmp (.int k)] (d :: rest) = some (.ok v (d' :: rest)) := by
  by_cases c : isOwn d' = true
  · simp [callD, ioOf, nodupB, passD, blank, res, fz, e, ev, isOwns, c, putBack]
  · simp [callD, ioOf, nodupB, passD, blank, res, fz, e, ev, isOwns, c, putBack, tmps, isFzs, isFz, freezeV]
theorem call_sizes {d : D} {many : Nat} {rest : List D} (hd : StOk d) (h1 : 1 ≤ many) (h6 : many ≤ 6) : ∃ d' sz, StOk d' ∧ sz.length = many ∧ (∀ z ∈ sz, 1 ≤ z ∧ z ≤ 12) ∧ (∀ z ∈ sz, Can sz (z + 1)) ∧ callD F_L_sizes [.loc 0, .tmp (.int (many : Nat))] (d :: rest) = some (.ok (.lst true (sz.map D.int)) (d' :: rest)) := by
  obtain ⟨o, e, d', sz, h1, h2, h3, h4, rfl⟩ := sizes_ok hd h1 h6
  exact ⟨d', sz, h1, h2, h3, h4, call_i2 e (by simp only [isOwn, isOwns_ints, Bool.and_self])⟩
theorem call_l4 {m : List D → Option Out} {d x v d' : D} {xs : List D} {g most t : Int} (hf : fzs xs = xs) (e : m [d, .lst false xs, .int g, .int most] = some (.ret v [d'])) : callD ⟨[true, false, false, false], m⟩ [.loc 0, .loc 2, .tmp (.int g), .loc 3] [d, .int t, .lst false xs, .int most, x] = some (.ok v [d', .int t, .lst false xs, .int most, x]) := by
  by_cases c : isOwn v = true ∧ isOwn d' = true
  · simp [callD, ioOf, nodupB, passD, blank, res, fz, e, c.1, c.2, isOwns, putBack, hf]
  · have c' : (isOwn v && isOwns [d']) = false := by
      simp only [isOwns, Bool.and_true]
      cases q : isOwn v <;> cases q2 : isOwn d' <;> simp_all
    simp [callD, ioOf, nodupB, passD, blank, res, fz, e, c', putBack, tmps, isFzs, isFz, freezeV, hf]
theorem call_lot {d x : D} {sz : List Int} {g : Nat} {most t : Int} (hd : StOk d) (hs : ∀ x ∈ sz, 1 ≤ x ∧ x ≤ 12) (hl : sz.length ≤ 6) (hg : g ≤ 20) (hc : Can sz g) (hm : 1 ≤ most) (hm2 : most ≤ 4) :
    ∃ d' b es, StOk d' ∧ LotG sz g b es ∧ callD F_L_lottery [.loc 0, .loc 2, .tmp (.int (g : Nat)), .loc 3] [d, .int t, .lst false (sz.map D.int), .int most, x] = some (.ok (.lst true (es.map (lwD b))) [d', .int t, .lst false (sz.map D.int), .int most, x]) := by
  obtain ⟨o, e, d', b, es, h1, h2, rfl⟩ := lottery_ok hd hs hl hg hc hm hm2
  refine ⟨d', b, es, h1, h2, ?_⟩
  exact call_l4 (fzs_ints _) e
theorem book_ok {d : D} (hd : StOk d) : ∃ o, m_L_book [d] = some o ∧ ∃ d' ow sz ls, StOk d' ∧ BkOk sz ls ∧ o = .ret (lbD ow sz ls) [d'] := by
  unfold m_L_book; refine fn_goE ?_; unfold b_L_book n_L_book
  obtain ⟨v1, d1, hd1, v10, v11, e1⟩ := call_pull (d := d) (many := 8) (s := 0) (rs := [d, .un, .un, .un, .un]) hd (by decide) rfl
  rw [go_cons]; simp! only [hd.un, e1]
  obtain ⟨v2, d2, hd2, v20, v21, e2⟩ := call_pull (d := d1) (many := 6) (s := 0) (rs := [d1, .int v1, .un, .un, .un]) hd1 (by decide) rfl
  obtain ⟨n, hn⟩ : ∃ n : Nat, 1 + v2 = (n : Nat) := ⟨(1 + v2).toNat, by omega⟩
  by_cases h7 : v1 = 7
  · rw [go_cons]; simp! only [h7]
    rw [h7] at e2
    have e3 := call_tree (n := n) (rs := [d2, .int 7, .un, .un, .un]) (by omega) (by omega)
    rw [go_cons]; simp! only [hd1.un, e2, hn, e3]
    exact ⟨_, rfl, d2, true, _, _, hd2, tree_ok (by omega) (by omega), rfl⟩
  · rw [go_cons]; simp! only [h7]
    obtain ⟨d3, sz, hd3, hl, hs, hcan, e3⟩ := call_sizes (d := d2) (rest := [.int v1, .un, .un, .un]) hd2 (show 1 ≤ n by omega) (show n ≤ 6 by omega)
    have eblk : ∀ rs : List D, True := fun _ => trivial
    rw [go_cons]; simp! only [hd1.un, e2, hn, e3]
    rw [go_cons]; simp! only []
    have fin : ∀ most : Int, 1 ≤ most → most ≤ 4 → Go (evSs 0 [0] (match b_L_book with
        | .cons _ (.cons _ (.cons _ (.cons _ (.cons _ r)))) => r
        | _ => .nil) [d3, .int v1, .lst true (sz.map D.int), .int most, .un]) (fun fl => ∃ o, outFl [true] fl = some o ∧ ∃ d' ow sz ls, StOk d' ∧ BkOk sz ls ∧ o = .ret (lbD ow sz ls) [d']) := by
      intro most hm1 hm4
      unfold b_L_book
      dsimp only
      rw [go_cons]; simp! only []
      simp only [bd_assoc, thenE_bd]
      refine go_lc (P := fun i rs acc => ∃ d ls, StOk d ∧ (ls : List Lot).length = i ∧ (∀ (k : Nat) (l : Lot) (z : Int), ls[k]? = some l → sz[k]? = some z → LotG sz (z + 1) l.1 l.2) ∧ acc = ls.map lotW ∧ rs = [d, .int v1, .lst false (sz.map D.int), .int most, .un]) ⟨d3, [], hd3, rfl, by simp, rfl, rfl⟩ ?_ ?_
      · rintro i c rs acc hi ⟨d, ls, hd, hll, hls, rfl, rfl⟩
        rw [List.getElem?_map] at hi
        obtain ⟨z, hz, rfl⟩ := Option.map_eq_some_iff.mp hi
        have hzm := List.mem_of_getElem? hz
        have hz12 := hs z hzm
        obtain ⟨g, hg⟩ : ∃ g : Nat, z + 1 = (g : Nat) := ⟨(z + 1).toNat, by omega⟩
        have hcz := hcan z hzm
        rw [hg] at hcz
        obtain ⟨d', b, es, hd', hG, el⟩ := call_lot (x := .int z) (t := v1) hd hs (by omega) (show g ≤ 20 by omega) hcz hm1 hm4
        have hil := (List.getElem?_eq_some_iff.mp hz).1
        rw [lcP_eq]
        simp! only [hd.un, hg, el]
        refine ⟨by omega, d', ls ++ [(b, es)], hd', by simp [hll], ?_, by simp [lotW], rfl⟩
        intro k l z' hk hz'
        rw [List.getElem?_append] at hk
        split at hk
        · exact hls k l z' hk hz'
        · have hk' : k = i := by
            rw [List.getElem?_eq_some_iff] at hk
            obtain ⟨hk1, _⟩ := hk
            simp at hk1
            omega
          subst hk'
          simp [hll] at hk
          rw [hz] at hz'
          cases hz'
          subst hk
          rw [hg]
          exact hG
      · rintro rs acc ⟨d, ls, hd, hll, hls, rfl, rfl⟩
        rw [List.length_map] at hll
        simp! only []
        refine ⟨_, rfl, d, false, sz, ls, hd, ⟨by omega, by omega, hs, hll, ?_⟩, rfl⟩
        intro k l hk
        have hkl := (List.getElem?_eq_some_iff.mp hk).1
        have hz : sz[k]? = some sz[k] := List.getElem?_eq_getElem (by omega)
        exact (hls k l _ hk hz).ok hz
    unfold b_L_book at fin
    dsimp only at fin
    by_cases h4 : 4 < v1
    · rw [go_cons]; simp! only [h4]
      rw [go_cons]; simp! only []
      exact fin 1 (by decide) (by decide)
    · rw [go_cons]; simp! only [h4]
      exact fin 4 (by decide) (by decide)
/-! ### as the book wants them -/
abbrev b_L_rules : Ss := .cons (.ret (.lc (.nm 2) (.seqL (.var 0)) (.nil) (.lc (.nm 1) (.seqL (.var 2)) (.nil) (.tup (.cons (.tup (.cons (.ix (.var 1) (.con (.int 0))) (.cons (.ix (.var 1) (.con (.int 1))) (.nil)))) (.cons (.cpy (.ix (.var 1) (.con (.int 2)))) (.nil)))) [1]) [2])) (.nil)
def n_L_rules : Nat := 3
def m_L_rules : List D → Option Out := evFn 0 [false] n_L_rules b_L_rules
def F_L_rules : Fn := ⟨[false], m_L_rules⟩
def inO (b : Int) (e : Int × List Int) : D := .tup [.tup [.int e.1, .int b], .lst true (e.2.map D.int)]
def lotO (l : Lot) : D := .lst true (l.2.map (inO l.1))
theorem fz_inO (b : Int) (e : Int × List Int) : fz (inO b e) = inD b e := by simp only [inO, inD, frD, fz, fzs, fzs_ints]
theorem fz_lotO (l : Lot) : fz (lotO l) = lotIn l := by simp only [lotO, lotIn, fz, fzs_mapG _ _ (fz_inO _)]
theorem isFz_lwF (b : Int) (e : Int × List Int) : isFz (lwF b e) = true := by
  have := isFz_fz (lwF b e)
  rwa [fz_lwF] at this
theorem L_rules_ok {sz : List Int} {ls : List Lot} (h : BkOk sz ls) : m_L_rules [.lst false (ls.map lotG)] = some (.ret (.lst true (ls.map lotO)) []) := by
  have hz := fzs_mapF lotG fz_lotG ls
  have h6 := h.s6
  have hl := h.ll
  unfold m_L_rules; refine fn_go ?_; unfold b_L_rules n_L_rules
  rw [go_cons]; simp! only [hz]
  rw [lc_each lotO (by omega) (fun l acc hl ha => by
    obtain ⟨k, hk⟩ := List.mem_iff_getElem?.mp hl
    have few := (h.lot k l hk).few
    rw [lcP_eq]
    simp! only [un_lotG, fz_lotG, it_lotG]
    rw [lc_each (inO l.1) (by omega) (fun e acc he ha => by
      rw [lcP_eq]; unfold lwF
      simp! only [ixLoc, tupTmp, cpyTmp, isFzs_ints, inO]
      first | exact ha | exact ⟨ha, by first | trivial | rfl⟩ | exact ⟨ha, by first | trivial | rfl, by first | trivial | rfl⟩)]
    simp! only [lotO]
    first | exact ha | exact ⟨ha, by first | trivial | rfl⟩ | exact ⟨ha, by first | trivial | rfl, by first | trivial | rfl⟩)]
  simp! only []
/-! ### the law's matrix -/
abbrev b_L_matrix_10 : Ss := .cons (.ret (.lst (.cons (.var 5) (.cons (.var 2) (.nil))))) (.nil)
abbrev b_L_matrix_9 : Ss := .cons (.sto2 5 (.var 8) (.var 6) (.pk (.op2 .add (.ix (.ix (.var 5) (.var 8)) (.var 6)) (.op2 .mul (.op2 .mul (.op2 .mul (.op2 .fdiv (.var 2) (.ix (.var 7) (.con (.int 1)))) (.ix (.var 7) (.con (.int 0)))) (.ix (.var 0) (.var 6))) (.ix (.ix (.var 7) (.con (.int 2))) (.var 8)))))) (.nil)
abbrev b_L_matrix_8 : Ss := .cons (.for_ (.nm 8) (.rng1 (.cons (.var 4) (.nil))) (b_L_matrix_9)) (.nil)
abbrev b_L_matrix_7 : Ss := .cons (.for_ (.nm 7) (.seqL (.ix (.var 1) (.var 6))) (b_L_matrix_8)) (.nil)
abbrev b_L_matrix_6 : Ss := .cons (.sto2 5 (.var 6) (.var 6) (.pk (.op2 .sub (.con (.int 0)) (.op2 .mul (.var 2) (.ix (.var 0) (.var 6)))))) (b_L_matrix_7)
abbrev b_L_matrix_5 : Ss := .cons (.for_ (.nm 6) (.rng1 (.cons (.var 4) (.nil))) (b_L_matrix_6)) (b_L_matrix_10)
abbrev b_L_matrix_4 : Ss := .cons (.asg (.nm 5) (.lc (.nm 8) (.rng1 (.cons (.var 4) (.nil))) (.nil) (.lc (.nm 6) (.rng1 (.cons (.var 4) (.nil))) (.nil) (.con (.int 0)) [6]) [8])) (b_L_matrix_5)
abbrev b_L_matrix_3 : Ss := .cons (.asg (.nm 4) (.pk (.fnc .len (.cons (.var 0) (.nil))))) (b_L_matrix_4)
abbrev b_L_matrix_2 : Ss := .cons (.asg (.nm 2) (.op2 .mul (.op2 .fdiv (.var 2) (.call "_law_gcd" F_L_gcd (.cons (.var 2) (.cons (.ix (.ix (.var 3) (.con (.int 0))) (.con (.int 1))) (.nil))))) (.ix (.ix (.var 3) (.con (.int 0))) (.con (.int 1))))) (.nil)
abbrev b_L_matrix_1 : Ss := .cons (.for_ (.nm 3) (.seqL (.var 1)) (b_L_matrix_2)) (b_L_matrix_3)
abbrev b_L_matrix : Ss := .cons (.asg (.nm 2) (.con (.int 1))) (b_L_matrix_1)
def n_L_matrix : Nat := 9
def m_L_matrix : List D → Option Out := evFn 0 [false, false] n_L_matrix b_L_matrix
def F_L_matrix : Fn := ⟨[false, false], m_L_matrix⟩
variable {sz : List Int} {ls : List Lot}
theorem call_gcd {a b : Int} {rs : List D} {A B : Arg} (h1 : res rs A = .int a) (h2 : res rs B = .int b) (ha : 0 ≤ a) (hb : 0 ≤ b) : callD F_L_gcd [A, B] rs = some (.ok (.int (Nat.gcd a.natAbs b.natAbs : Nat)) rs) := call_v2 (by
  rw [h1, h2]
  simp only [m_gcd]
  rw [if_pos ⟨ha, hb⟩]) rfl
def lotB (l : Lot) : Int × Int := (0, l.1)
def botL (ls : List Lot) : Nat := lcmF 1 (ls.map lotB)
theorem BkOk.lots {l : Lot} (h : BkOk sz ls) (hl : l ∈ ls) : ∃ k, LotOk sz k l.1 l.2 := by
  obtain ⟨k, hk⟩ := List.mem_iff_getElem?.mp hl
  exact ⟨k, h.lot k l hk⟩
theorem BkOk.lbd (h : BkOk sz ls) : ∀ p ∈ ls.map lotB, 1 ≤ p.2 ∧ p.2 ≤ 100 := fun p hp => by
  obtain ⟨l, hl, rfl⟩ := List.mem_map.mp hp
  obtain ⟨k, hk⟩ := h.lots hl
  exact ⟨hk.b1, hk.b2⟩
theorem botL_bd (h : BkOk sz ls) : 0 < botL ls ∧ botL ls < 2 ^ 136 := ⟨lcmF_pos (fun p hp => (h.lbd p hp).1) (by decide), lcmF_bd h.lbd (Nat.one_dvd _)⟩
theorem lm_bottom {Q : Fl → Prop} (h : BkOk sz ls) (k : ∀ x, Q (.nx [.lst false (sz.map D.int), .lst false (ls.map lotG), .int (botL ls : Nat), x, .un, .un, .un, .un, .un])) :
    Go (forL (tgA [] (.nm 3)) (evSs 0 [] b_L_matrix_2) (ls.map lotG) [.lst false (sz.map D.int), .lst false (ls.map lotG), .int 1, .un, .un, .un, .un, .un, .un]) Q := by
  refine go_for (P := fun j rs => ∃ x, rs = [.lst false (sz.map D.int), .lst false (ls.map lotG), .int (lcmF 1 ((ls.take j).map lotB) : Nat), x, .un, .un, .un, .un, .un]) ⟨_, rfl⟩ ?_ ?_
  · rintro j l rs hj ⟨x, rfl⟩
    have hlo := h.lot j l hj
    refine ⟨_, rfl, ?_⟩
    have hq : ∀ p ∈ (ls.take j).map lotB, 1 ≤ p.2 ∧ p.2 ≤ 100 := fun p hp => h.lbd p (by
      obtain ⟨l, hl, rfl⟩ := List.mem_map.mp hp
      exact List.mem_map_of_mem (List.mem_of_mem_take hl))
    have hrb := lcmF_bd hq (Nat.one_dvd _)
    have hrp := lcmF_pos (fun p hp => (hq p hp).1) (show 0 < 1 by decide)
    have et : lcmF 1 ((ls.take (j + 1)).map lotB) = Nat.lcm (lcmF 1 ((ls.take j).map lotB)) l.1.natAbs := by
      unfold lcmF
      rw [take_map_succ lotB hj]
      simp [lotB]
    generalize lcmF 1 ((ls.take j).map lotB) = r at *
    have g0 : ((Nat.gcd r l.1.natAbs : Nat) : Int) ≠ 0 := by
      have := Nat.gcd_pos_of_pos_left l.1.natAbs hrp
      omega
    have mm := lcm_mulok hrb hlo.b1 hlo.b2
    have st := lcm_step hrp hlo.b1
    obtain ⟨e0, es', hes⟩ : ∃ e es', l.2 = e :: es' := by
      have := hlo.ne
      cases q : l.2 with
      | nil => rw [q] at this; simp at this
      | cons e es' => exact ⟨e, es', rfl⟩
    have ha : L2.atI (l.2.map (lwF l.1)) 0 = some (lwF l.1 e0) := at_nat (j := 0) (by rw [hes]; rfl)
    have il : itemsOf (lwF l.1 e0) = some [.int e0.1, .int l.1, .lst false (e0.2.map D.int)] := rfl
    have ec := call_gcd (rs := [.lst false (sz.map D.int), .lst false (ls.map lotG), .int (r : Nat), lotG l, .un, .un, .un, .un, .un]) (A := .loc 2) (B := .tmp (.int l.1)) (a := (r : Nat)) (b := l.1) (by rw [res_loc rfl]; rfl) rfl (by omega) (by have := hlo.b1; omega)
    rw [go_cons]; simp! only [un_lotG, fz_lotG, it_lotG, ixLoc, ha, isFz_lwF, il, ec, Int.natAbs_natCast, d2_fdiv g0, d2_mul mm, st]
    exact ⟨_, by rw [et]⟩
  · rintro rs ⟨x, rfl⟩
    rw [List.take_length, show lcmF 1 (ls.map lotB) = botL ls from rfl]
    exact k x
def colL (bot z : Int) (l : Lot) (j : Nat) (es : List (Int × List Int)) : Int := (es.map fun e => bot.fdiv l.1 * e.1 * z * e.2.getD j 0).sum
def lE (sz : List Int) (ls : List Lot) (j i : Nat) : Int := match ls[i]? with
  | some l => colL (botL ls) (sz.getD i 0) l j l.2 + (if j = i then 0 - (botL ls : Int) * sz.getD i 0 else 0)
  | none => 0
theorem colL_take {bot z : Int} {l : Lot} {j m : Nat} {es : List (Int × List Int)} {e : Int × List Int} (h : es[m]? = some e) : colL bot z l j (es.take (m + 1)) = colL bot z l j (es.take m) + bot.fdiv l.1 * e.1 * z * e.2.getD j 0 := by
  unfold colL
  rw [take_map_succ _ h]; simp
theorem lm_line {Q : Fl → Prop} {n k bot : Nat} {x L : D} {b zk : Int} {e : Int × List Int} {F0 : Nat → Nat → Int} {v : D} (hn : sz.length = n) (h6 : n ≤ 6) (hk : k < n) (hz : sz.getD k 0 = zk) (hos : e.2.length = n) (hrng : ∀ o ∈ e.2, 0 ≤ o ∧ o ≤ 20) (hz1 : 1 ≤ zk ∧ zk ≤ 12) (he : 1 ≤ e.1 ∧ e.1 ≤ 100) (hb : 1 ≤ b) (hbot : bot < 2 ^ 136)
    (kk : ∀ F v, (∀ j i, j < n → i < n → F j i = F0 j i + if i = k then (bot : Int).fdiv b * e.1 * zk * e.2.getD j 0 else 0) → Q (.nx [.lst false (sz.map D.int), L, .int (bot : Nat), x, .int (n : Nat), rowsD true n F, .int (k : Nat), lwF b e, v])) :
    Go (forL (tgA [] (.nm 8)) (evSs 0 [] b_L_matrix_9) (rngD 0 n) [.lst false (sz.map D.int), L, .int (bot : Nat), x, .int (n : Nat), rowsD true n F0, .int (k : Nat), lwF b e, v]) Q := by
  have hzk : L2.atI (sz.map D.int) (k : Int) = some (.int zk) := by rw [← hz]; exact at_getD (by omega)
  have hb0 : b ≠ 0 := by omega
  have hfd : ((bot : Int).fdiv b).natAbs < 2 ^ 136 := by
    rw [Int.fdiv_eq_ediv_of_nonneg _ (by omega)]
    have := Int.natAbs_ediv_le_natAbs (bot : Int) b
    rw [Int.natAbs_natCast] at this
    omega
  have m1 : mulOk ((bot : Int).fdiv b) e.1 = true := mul_of 136 10 hfd (by omega) (by decide) (by decide)
  have b1 := mul_step hfd (show e.1.natAbs < 2 ^ 10 by omega)
  have m2 : mulOk ((bot : Int).fdiv b * e.1) zk = true := mul_of (136 + 10) 10 b1 (by omega) (by decide) (by decide)
  have b2 := mul_step b1 (show zk.natAbs < 2 ^ 10 by omega)
  have il : itemsOf (lwF b e) = some [.int e.1, .int b, .lst false (e.2.map D.int)] := rfl
  refine go_rng0 (P := fun t rs => ∃ F v, rs = [.lst false (sz.map D.int), L, .int (bot : Nat), x, .int (n : Nat), rowsD true n F, .int (k : Nat), lwF b e, v] ∧ ∀ j i, j < n → i < n → F j i = F0 j i + if j < t ∧ i = k then (bot : Int).fdiv b * e.1 * zk * e.2.getD j 0 else 0) ⟨F0, _, rfl, fun j i hj hi => by simp⟩ ?_ ?_
  · rintro t rs ht ⟨F, v, rfl, hF⟩
    refine ⟨_, rfl, ?_⟩
    have hat2 := at_getD (ns := e.2) (j := t) (by omega)
    have hb20 : 0 ≤ e.2.getD t 0 ∧ e.2.getD t 0 ≤ 20 := hrng _ (by rw [List.getD_eq_getElem?_getD, List.getElem?_eq_getElem (show t < e.2.length by omega)]; exact List.getElem_mem _)
    have m3 : mulOk ((bot : Int).fdiv b * e.1 * zk) (e.2.getD t 0) = true := mul_of (136 + 10 + 10) 10 b2 (by omega) (by decide) (by decide)
    rw [go_cons]; simp! only [rowsD, rowD, fzs_rows, at_rng _ ht, at_rng _ hk, asInt, un_lwF, fz_lwF, il, hzk, hat2, d2_fdiv hb0, d2_mul m1, d2_mul m2, d2_mul m3, List.length_range, ixN_nat ht, ixN_nat hk, get_rng _ ht, rows_set ht hk]
    refine ⟨_, _, rfl, fun j i hj hi => ?_⟩
    simp only [upd2]
    by_cases q : j = t ∧ i = k
    · obtain ⟨rfl, rfl⟩ := q
      rw [if_pos ⟨rfl, rfl⟩, hF j i hj hi, if_neg (by omega), if_pos ⟨Nat.lt_succ_self _, rfl⟩]
      omega
    · rw [if_neg q, hF j i hj hi]
      by_cases q1 : j < t ∧ i = k
      · rw [if_pos q1, if_pos (show j < t + 1 ∧ i = k from ⟨by omega, q1.2⟩)]
      · rw [if_neg q1, if_neg (show ¬ (j < t + 1 ∧ i = k) from fun z => by
          rcases Nat.lt_succ_iff_lt_or_eq.mp z.1 with a | a
          · exact q1 ⟨a, z.2⟩
          · exact q ⟨a, z.2⟩)]
  · rintro rs ⟨F, v, rfl, hF⟩
    refine kk F v fun j i hj hi => ?_
    rw [hF j i hj hi]
    simp [hj]
theorem lm_col {Q : Fl → Prop} {k : Nat} {l : Lot} {F0 : Nat → Nat → Int} {x w v : D} (h : BkOk sz ls) (hk : k < sz.length) (hl : ls[k]? = some l)
    (kk : ∀ F w v, (∀ j i, j < sz.length → i < sz.length → F j i = F0 j i + if i = k then colL (botL ls) (sz.getD k 0) l j l.2 else 0) → Q (.nx [.lst false (sz.map D.int), .lst false (ls.map lotG), .int (botL ls : Nat), x, .int (sz.length : Nat), rowsD true sz.length F, .int (k : Nat), w, v])) :
    Go (forL (tgA [] (.nm 7)) (evSs 0 [] b_L_matrix_8) (l.2.map (lwF l.1)) [.lst false (sz.map D.int), .lst false (ls.map lotG), .int (botL ls : Nat), x, .int (sz.length : Nat), rowsD true sz.length F0, .int (k : Nat), w, v]) Q := by
  have hr : rngB ((sz.length : Nat) : Int) = true := rngB_len (by have := h.s6; omega)
  have hlo := h.lot k l hl
  have hz12 : 1 ≤ sz.getD k 0 ∧ sz.getD k 0 ≤ 12 := h.sb _ (by rw [List.getD_eq_getElem?_getD, List.getElem?_eq_getElem hk]; exact List.getElem_mem hk)
  refine go_for (P := fun m rs => ∃ F w v, rs = [.lst false (sz.map D.int), .lst false (ls.map lotG), .int (botL ls : Nat), x, .int (sz.length : Nat), rowsD true sz.length F, .int (k : Nat), w, v] ∧ ∀ j i, j < sz.length → i < sz.length → F j i = F0 j i + if i = k then colL (botL ls) (sz.getD k 0) l j (l.2.take m) else 0) ⟨F0, _, _, rfl, fun j i hj hi => by simp [colL]⟩ ?_ ?_
  · rintro m e rs hm ⟨F, w, v, rfl, hF⟩
    refine ⟨_, rfl, ?_⟩
    have hme := List.mem_of_getElem? hm
    obtain ⟨hp0, hpb, hb2⟩ := entry_bd hlo hme
    rw [go_cons]; simp! only [hr]
    refine lm_line (F0 := F) rfl h.s6 hk rfl (hlo.len e hme) (hlo.rng e hme) hz12 ⟨hp0, by omega⟩ hlo.b1 (botL_bd h).2 fun F' v' hF' => ?_
    simp! only []
    refine ⟨F', _, _, rfl, fun j i hj hi => ?_⟩
    rw [hF' j i hj hi, hF j i hj hi, colL_take hm]
    by_cases q : i = k
    · rw [if_pos q, if_pos q, if_pos q]; omega
    · rw [if_neg q, if_neg q, if_neg q]; omega
  · rintro rs ⟨F, w, v, rfl, hF⟩
    rw [List.take_length] at hF
    exact kk F w v hF
theorem lE_some {j k : Nat} {l : Lot} (hl : ls[k]? = some l) : lE sz ls j k = colL (botL ls) (sz.getD k 0) l j l.2 + (if j = k then 0 - (botL ls : Int) * sz.getD k 0 else 0) := by simp only [lE, hl]
theorem lm_kinds {Q : Fl → Prop} {x w v1 v2 : D} (h : BkOk sz ls)
    (kk : ∀ F x w v1 v2, (∀ j i, j < sz.length → i < sz.length → F j i = lE sz ls j i) → Q (.nx [.lst false (sz.map D.int), .lst false (ls.map lotG), .int (botL ls : Nat), x, .int (sz.length : Nat), rowsD true sz.length F, w, v1, v2])) :
    Go (forL (tgA [] (.nm 6)) (evSs 0 [] b_L_matrix_6) (rngD 0 sz.length) [.lst false (sz.map D.int), .lst false (ls.map lotG), .int (botL ls : Nat), x, .int (sz.length : Nat), rowsD true sz.length (fun _ _ => 0), w, v1, v2]) Q := by
  have hz0 := fzs_mapF lotG fz_lotG ls
  refine go_rng0 (P := fun k rs => ∃ F x w v1 v2, rs = [.lst false (sz.map D.int), .lst false (ls.map lotG), .int (botL ls : Nat), x, .int (sz.length : Nat), rowsD true sz.length F, w, v1, v2] ∧ ∀ j i, j < sz.length → i < sz.length → F j i = if i < k then lE sz ls j i else 0) ⟨fun _ _ => 0, _, _, _, _, rfl, by simp⟩ ?_ ?_
  · rintro k rs hk ⟨F, x, w, v1, v2, rfl, hF⟩
    refine ⟨_, rfl, ?_⟩
    obtain ⟨l, hlk⟩ : ∃ l, ls[k]? = some l := ⟨_, List.getElem?_eq_getElem (by rw [h.ll]; exact hk)⟩
    have hbp := botL_bd h
    have hzk := at_getD hk
    have hz12 : 1 ≤ sz.getD k 0 ∧ sz.getD k 0 ≤ 12 := h.sb _ (by rw [List.getD_eq_getElem?_getD, List.getElem?_eq_getElem hk]; exact List.getElem_mem hk)
    have mm : mulOk (botL ls : Int) (sz.getD k 0) = true := mul_of 136 10 (by omega) (by omega) (by decide) (by decide)
    have hat : L2.atI (ls.map lotG) (k : Int) = some (lotG l) := at_nat (by rw [List.getElem?_map, hlk]; rfl)
    have hfl : isFz (lotG l) = true := by
      have := isFz_fz (lotG l)
      rwa [fz_lotG] at this
    rw [go_cons]; simp! only [hzk, d2_mul mm, rowsD, rowD, List.length_range, ixN_nat hk, get_rng _ hk, rows_set hk hk]
    rw [go_cons]; simp! only [ixLoc, hat, hfl, fz_lotG, it_lotG]
    refine lm_col (F0 := upd2 F k k (0 - (botL ls : Int) * sz.getD k 0)) h hk hlk fun F' w v hF' => ?_
    simp! only []
    refine ⟨F', _, _, _, _, rfl, fun j i hj hi => ?_⟩
    rw [hF' j i hj hi]
    simp only [upd2]
    by_cases q : i = k
    · subst q
      rw [if_pos rfl, if_pos (Nat.lt_succ_self _), lE_some hlk]
      by_cases q2 : j = i
      · rw [if_pos ⟨q2, rfl⟩, if_pos q2]; omega
      · rw [if_neg (fun z => q2 z.1), if_neg q2, hF j i hj hi, if_neg (Nat.lt_irrefl _)]; omega
    · rw [if_neg (fun z => q z.2), if_neg q, hF j i hj hi]
      by_cases q1 : i < k
      · rw [if_pos q1, if_pos (show i < k + 1 by omega)]; omega
      · rw [if_neg q1, if_neg (show ¬ i < k + 1 by omega)]; omega
  · rintro rs ⟨F, x, w, v1, v2, rfl, hF⟩
    exact kk F x w v1 v2 fun j i hj hi => by rw [hF j i hj hi, if_pos hi]
theorem L_matrix_ok (h : BkOk sz ls) : m_L_matrix [.lst false (sz.map D.int), .lst false (ls.map lotG)] = some (.ret (.lst true [rowsD true sz.length (lE sz ls), .int (botL ls : Nat)]) []) := by
  have s6 := h.s6
  have hr : rngB ((sz.length : Nat) : Int) = true := rngB_len (by omega)
  have hz0 := fzs_mapF lotG fz_lotG ls
  unfold m_L_matrix; refine fn_go ?_; unfold b_L_matrix n_L_matrix
  rw [go_cons]; simp! only []
  rw [go_cons]; simp! only [hz0]
  refine lm_bottom h fun x => ?_
  simp! only []
  rw [go_cons]; simp! only []
  rw [go_cons]; simp! only [hr]
  rw [lc_rng (fun _ => rowD true sz.length fun _ => 0) (by omega) (fun j acc hj ha => by
    rw [lcP_eq]
    simp! only [hr]
    rw [lc_rng (fun _ => .int 0) (by omega) (fun j acc hj ha => by
      rw [lcP_eq]
      simp! only []
      first | exact ha | exact ⟨ha, by first | trivial | rfl⟩ | exact ⟨ha, by first | trivial | rfl, by first | trivial | rfl⟩)]
    simp! only []
    first | exact ⟨ha, rfl⟩ | exact ⟨ha, rfl, rfl⟩)]
  simp! only []
  rw [go_cons]; simp! only [hr]
  refine lm_kinds h fun F x w v1 v2 hF => ?_
  simp! only []
  rw [rows_congr hF]
  rw [go_cons]; simp! only [un_rowsD, isFz_rowsD]
end Pv

set_option maxHeartbeats 2000000
namespace Pv
open PySem
/-! ### the matrix, plainly -/
theorem perm_sum {l m : List Int} (h : l.Perm m) : l.sum = m.sum := by
  induction h with
  | nil => rfl
  | cons x _ ih => simp [ih]
  | swap x y l => simp; omega
  | trans _ _ h1 h2 => exact h1.trans h2
theorem dvd_lcmF : ∀ {l : List (Int × Int)} {r : Nat} {p : Int × Int}, p ∈ l → p.2.natAbs ∣ lcmF r l
  | [], _, _, h => by simp at h
  | q :: l, r, p, h => by
    have mono : ∀ (l : List (Int × Int)) (r : Nat), r ∣ lcmF r l := fun l => by
      induction l with
      | nil => intro r; exact Nat.dvd_refl _
      | cons q l ih => intro r; exact Nat.dvd_trans (Nat.dvd_lcm_left _ _) (ih _)
    rcases List.mem_cons.mp h with rfl | h
    · exact Nat.dvd_trans (Nat.dvd_lcm_right _ _) (mono l _)
    · show p.2.natAbs ∣ lcmF (Nat.lcm r q.2.natAbs) l
      exact dvd_lcmF (l := l) h
theorem fdiv_mul {d u : Int} (hd : 1 ≤ d) : (d * u).fdiv d = u := by
  rw [Int.fdiv_eq_ediv_of_nonneg _ (by omega), Int.mul_ediv_cancel_left _ (by omega)]
theorem int_dvd {d : Int} {P : Nat} (h : d.natAbs ∣ P) : ∃ u : Int, (P : Int) = d * u := by
  obtain ⟨u, hu⟩ := Int.natAbs_dvd.mp (Int.ofNat_dvd.mpr h)
  exact ⟨u, hu⟩
/-- the weight of an entry among the whole -/
def wgt (P b a : Int) : Int := (lowI a b).1 * P.fdiv (lowI a b).2
theorem wgt_mul {a b P u : Int} (hb : 1 ≤ b) (hP : P = (lowI a b).2 * u) : wgt P b a * b = a * P := by
  obtain ⟨g, hg, ea, eb, p1, c1⟩ := low_spec (a := a) hb
  unfold wgt
  rw [hP, fdiv_mul p1]
  calc (lowI a b).1 * u * b = ((lowI a b).1 * b) * u := by ac_rfl
    _ = (a * (lowI a b).2) * u := by rw [lowI_cross hb]
    _ = a * ((lowI a b).2 * u) := by ac_rfl
variable {sz : List Int} {ls : List Lot}
theorem share_dvd {l : Lot} {e : Int × List Int} (hl : l ∈ ls) (he : e ∈ l.2) : (lowI e.1 l.1).2.natAbs ∣ botP ls :=
  dvd_lcmF (List.mem_flatMap.mpr ⟨l, hl, List.mem_map.mpr ⟨e, mem_sortE.mpr he, rfl⟩⟩)
theorem lot_dvd {l : Lot} (hl : l ∈ ls) : l.1.natAbs ∣ botL ls := dvd_lcmF (p := lotB l) (List.mem_map.mpr ⟨l, hl, rfl⟩)
theorem colS_perm {bot z : Int} {l : Lot} {j : Nat} : colS bot z l j (sortE l.1 l.2) = colS bot z l j l.2 := perm_sum ((sortE_perm l.1 l.2).map _)
theorem sum_mul (c : Int) : ∀ l : List Int, l.sum * c = (l.map (· * c)).sum
  | [] => by simp
  | x :: l => by simp [Int.add_mul, sum_mul c l]
theorem sum_congr {A : Type} {f g : A → Int} : ∀ {l : List A}, (∀ a ∈ l, f a = g a) → (l.map f).sum = (l.map g).sum
  | [], _ => rfl
  | a :: l, h => by
    simp only [List.map_cons, List.sum_cons, h a List.mem_cons_self, sum_congr fun b hb => h b (List.mem_cons_of_mem a hb)]
theorem wgt_of (h : BkOk sz ls) {l : Lot} {e : Int × List Int} (hl : l ∈ ls) (he : e ∈ l.2) : wgt (botP ls) l.1 e.1 * l.1 = e.1 * botP ls := by
  obtain ⟨k, hk⟩ := h.lots hl
  obtain ⟨u, hu⟩ := int_dvd (share_dvd hl he)
  exact wgt_mul hk.b1 hu
theorem wgt_nn (h : BkOk sz ls) {l : Lot} {e : Int × List Int} (hl : l ∈ ls) (he : e ∈ l.2) : 0 ≤ wgt (botP ls) l.1 e.1 := by
  obtain ⟨k, hk⟩ := h.lots hl
  have h1 := wgt_of h hl he
  have h2 := hk.pos e he
  have h3 := hk.b1
  have h4 : 0 ≤ e.1 * (botP ls : Int) := Int.mul_nonneg (by omega) (by omega)
  rw [← h1] at h4
  exact Int.nonneg_of_mul_nonneg_left h4 (by omega)
theorem wgt_le (h : BkOk sz ls) {l : Lot} {e : Int × List Int} (hl : l ∈ ls) (he : e ∈ l.2) : wgt (botP ls) l.1 e.1 ≤ botP ls := by
  obtain ⟨k, hk⟩ := h.lots hl
  have h1 := wgt_of h hl he
  have h2 := (entry_bd hk he).2.1
  have h3 := hk.b1
  have h4 : e.1 * (botP ls : Int) ≤ l.1 * (botP ls : Int) := Int.mul_le_mul_of_nonneg_right h2 (by omega)
  rw [← h1, Int.mul_comm l.1] at h4
  exact Int.le_of_mul_le_mul_right h4 (by omega)
theorem wgt_sum (h : BkOk sz ls) {l : Lot} (hl : l ∈ ls) : (l.2.map fun e => wgt (botP ls) l.1 e.1).sum = botP ls := by
  obtain ⟨k, hk⟩ := h.lots hl
  have h3 := hk.b1
  have e1 : (l.2.map fun e => wgt (botP ls) l.1 e.1).sum * l.1 = (botP ls : Int) * l.1 := by
    rw [sum_mul, List.map_map]
    calc (l.2.map ((· * l.1) ∘ fun e => wgt (botP ls) l.1 e.1)).sum = (l.2.map fun e => e.1 * (botP ls : Int)).sum := sum_congr fun e he => wgt_of h hl he
      _ = (l.2.map (·.1)).sum * (botP ls : Int) := by rw [sum_mul, List.map_map]; rfl
      _ = (botP ls : Int) * l.1 := by rw [hk.sum, Int.mul_comm]
  exact Int.eq_of_mul_eq_mul_right (by omega) e1
theorem colS_wgt {bot z : Int} {l : Lot} {j : Nat} {es : List (Int × List Int)} : colS bot z l j es = (es.map fun e => wgt bot l.1 e.1 * z * e.2.getD j 0).sum := rfl
/-- the law's matrix and the program's are one -/
theorem m_cross (h : BkOk sz ls) {i : Nat} (hi : i < sz.length) (j : Nat) : mE sz ls j i * botL ls = lE sz ls j i * botP ls := by
  obtain ⟨l, hl⟩ : ∃ l, ls[i]? = some l := ⟨_, List.getElem?_eq_getElem (by rw [h.ll]; exact hi)⟩
  have hm := List.mem_of_getElem? hl
  rw [mE_some hl, lE_some hl, colS_perm, colS_wgt, colL, Int.add_mul, Int.add_mul, sum_mul, sum_mul, List.map_map, List.map_map]
  congr 1
  · refine sum_congr fun e he => ?_
    obtain ⟨k, hk⟩ := h.lots hm
    obtain ⟨v, hv⟩ := int_dvd (lot_dvd hm)
    have hw := wgt_of h hm he
    show wgt (botP ls) l.1 e.1 * sz.getD i 0 * e.2.getD j 0 * (botL ls : Int) = (botL ls : Int).fdiv l.1 * e.1 * sz.getD i 0 * e.2.getD j 0 * (botP ls : Int)
    rw [hv, fdiv_mul hk.b1]
    generalize wgt (botP ls) l.1 e.1 = w at *
    generalize sz.getD i 0 = z
    generalize e.2.getD j 0 = o
    generalize (botP ls : Int) = P at *
    generalize l.1 = b at *
    generalize e.1 = a at *
    calc w * z * o * (b * v) = (w * b) * (z * o * v) := by ac_rfl
      _ = (a * P) * (z * o * v) := by rw [hw]
      _ = v * a * z * o * P := by ac_rfl
  · split
    · rw [Int.zero_sub, Int.neg_mul, Int.neg_mul, Int.neg_mul]
      congr 1
      ac_rfl
    · simp
theorem m_nn (h : BkOk sz ls) {i j : Nat} (hij : i ≠ j) : 0 ≤ mE sz ls j i := by
  unfold mE
  split
  · rename_i l hl
    have hm := List.mem_of_getElem? hl
    have hi := (List.getElem?_eq_some_iff.mp hl).1
    obtain ⟨k, hk⟩ := h.lots hm
    rw [if_neg (Ne.symm hij), Int.add_zero, colS_perm, colS_wgt]
    refine sum_nn fun x hx => ?_
    obtain ⟨e, he, rfl⟩ := List.mem_map.mp hx
    have hz : 0 ≤ sz.getD i 0 := by
      have := h.sb _ (show sz.getD i 0 ∈ sz by rw [List.getD_eq_getElem?_getD, List.getElem?_eq_getElem (by rw [← h.ll]; exact hi)]; exact List.getElem_mem _)
      omega
    have ho : 0 ≤ e.2.getD j 0 := by
      rw [List.getD_eq_getElem?_getD]
      cases q : e.2[j]? with
      | none => exact Int.le_refl _
      | some o => exact (hk.rng e he o (List.mem_of_getElem? q)).1
    exact Int.mul_nonneg (Int.mul_nonneg (wgt_nn h hm he) hz) ho
  · exact Int.le_refl _
where sum_nn : ∀ {l : List Int}, (∀ x ∈ l, 0 ≤ x) → 0 ≤ l.sum
  | [], _ => by simp
  | x :: l, h => by
    have h1 := h x List.mem_cons_self
    have h2 := sum_nn (l := l) fun y hy => h y (List.mem_cons_of_mem x hy)
    rw [List.sum_cons]; omega
theorem sum_bd {C : Int} (hC : 0 ≤ C) : ∀ {l : List Int}, (∀ x ∈ l, -C ≤ x ∧ x ≤ C) → -(C * l.length) ≤ l.sum ∧ l.sum ≤ C * l.length
  | [], _ => by simp
  | x :: l, h => by
    have h1 := h x List.mem_cons_self
    have h2 := sum_bd hC (l := l) fun y hy => h y (List.mem_cons_of_mem x hy)
    simp only [List.sum_cons, List.length_cons, Int.natCast_add, Int.mul_add, Int.natCast_one, Int.mul_one]
    omega
theorem getD_rng {sz : List Int} {i : Nat} {lo hi : Int} (h0 : lo ≤ 0 ∧ 0 ≤ hi) (h : ∀ z ∈ sz, lo ≤ z ∧ z ≤ hi) : lo ≤ sz.getD i 0 ∧ sz.getD i 0 ≤ hi := by
  rw [List.getD_eq_getElem?_getD]
  cases q : sz[i]? with
  | none => exact h0
  | some o => exact h o (List.mem_of_getElem? q)
theorem m_bd (h : BkOk sz ls) (i j : Nat) : (mE sz ls j i).natAbs < 2 ^ 160 := by
  have hb := (botP_bd h).2
  unfold mE
  split
  · rename_i l hl
    have hm := List.mem_of_getElem? hl
    obtain ⟨k, hk⟩ := h.lots hm
    have hz := getD_rng (sz := sz) (i := i) (lo := 0) (hi := 12) (by decide) fun z hz => by have := h.sb z hz; omega
    rw [colS_perm, colS_wgt]
    have h1 := sum_bd (C := 2 ^ 145) (by decide) (l := l.2.map fun e => wgt (botP ls) l.1 e.1 * sz.getD i 0 * e.2.getD j 0) fun x hx => by
      obtain ⟨e, he, rfl⟩ := List.mem_map.mp hx
      have w0 := wgt_nn h hm he
      have w1 := wgt_le h hm he
      have ho := getD_rng (sz := e.2) (i := j) (lo := 0) (hi := 20) (by decide) fun z hz => hk.rng e he z hz
      generalize wgt (botP ls) l.1 e.1 = w at *
      generalize sz.getD i 0 = z at *
      generalize e.2.getD j 0 = o at *
      have a1 : 0 ≤ w * z := Int.mul_nonneg w0 hz.1
      have a2 : w * z ≤ 2 ^ 136 * 12 := Int.mul_le_mul (by omega) hz.2 hz.1 (by decide)
      have a3 : 0 ≤ w * z * o := Int.mul_nonneg a1 ho.1
      have a4 : w * z * o ≤ 2 ^ 136 * 12 * 20 := Int.mul_le_mul a2 ho.2 ho.1 (by decide)
      omega
    have hlen := hk.few
    rw [List.length_map] at h1
    have h2 : (2 : Int) ^ 145 * (l.2.length : Nat) ≤ 2 ^ 145 * 4 := Int.mul_le_mul_of_nonneg_left (by omega) (by decide)
    have h3 : 0 ≤ (botP ls : Int) * sz.getD i 0 := Int.mul_nonneg (by omega) hz.1
    have h4 : (botP ls : Int) * sz.getD i 0 ≤ 2 ^ 136 * 12 := Int.mul_le_mul (by omega) hz.2 hz.1 (by decide)
    have h5 : -(botP ls : Int) * sz.getD i 0 = -((botP ls : Int) * sz.getD i 0) := Int.neg_mul _ _
    split <;> omega
  · decide
/-! ### the weighted sum of a column -/
def wS (sz : List Int) (F : Nat → Int) : Nat → Int
  | 0 => 0
  | t + 1 => wS sz F t + sz.getD t 0 * F t
theorem wS_add (sz : List Int) (F G : Nat → Int) : ∀ t, wS sz (fun j => F j + G j) t = wS sz F t + wS sz G t
  | 0 => rfl
  | t + 1 => by simp only [wS, wS_add sz F G t, Int.mul_add]; omega
theorem wS_mul (sz : List Int) (F : Nat → Int) (c : Int) : ∀ t, wS sz (fun j => c * F j) t = c * wS sz F t
  | 0 => by simp [wS]
  | t + 1 => by
    simp only [wS, wS_mul sz F c t, Int.mul_add]
    congr 1
    ac_rfl
theorem wS_zero (sz : List Int) : ∀ t, wS sz (fun _ => 0) t = 0
  | 0 => rfl
  | t + 1 => by simp [wS, wS_zero sz t]
theorem wS_sum {A : Type} (sz : List Int) (G : A → Nat → Int) (t : Nat) : ∀ es : List A, wS sz (fun j => (es.map fun e => G e j).sum) t = (es.map fun e => wS sz (G e) t).sum
  | [] => by simp [wS_zero]
  | e :: es => by simp only [List.map_cons, List.sum_cons, wS_add, wS_sum sz G t es]
theorem wS_one (sz : List Int) (i : Nat) (c : Int) : ∀ t, wS sz (fun j => if j = i then c else 0) t = if i < t then sz.getD i 0 * c else 0
  | 0 => by simp [wS]
  | t + 1 => by
    simp only [wS, wS_one sz i c t]
    by_cases h : t = i
    · subst h
      simp
    · by_cases h2 : i < t
      · rw [if_pos h2, if_neg h, if_pos (show i < t + 1 by omega)]; simp
      · rw [if_neg h2, if_neg h, if_neg (show ¬ i < t + 1 by omega)]; simp
theorem dot_wS : ∀ {a b : List Int}, a.length = b.length → dot a b = wS a (fun j => b.getD j 0) a.length := by
  intro a b h
  have key : ∀ (t : Nat), t ≤ a.length → dot (a.take t) (b.take t) = wS a (fun j => b.getD j 0) t := by
    intro t
    induction t with
    | zero => intro _; simp [dot, wS]
    | succ t ih =>
      intro ht
      have e1 : a.take (t + 1) = a.take t ++ [a.getD t 0] := by
        rw [List.take_succ, List.getD_eq_getElem?_getD, List.getElem?_eq_getElem (by omega)]; rfl
      have e2 : b.take (t + 1) = b.take t ++ [b.getD t 0] := by
        rw [List.take_succ, List.getD_eq_getElem?_getD, List.getElem?_eq_getElem (by omega)]; rfl
      rw [e1, e2, dot_snoc (by simp; omega), ih (by omega)]
      rfl
  have := key a.length (Nat.le_refl _)
  rw [List.take_length, List.take_of_length_le (by omega)] at this
  exact this
theorem wS_congr {sz : List Int} {F G : Nat → Int} : ∀ {t : Nat}, (∀ j, j < t → F j = G j) → wS sz F t = wS sz G t
  | 0, _ => rfl
  | t + 1, h => by simp only [wS, wS_congr fun j hj => h j (Nat.lt_succ_of_lt hj), h t (Nat.lt_succ_self t)]
/-- the weight of a column -/
theorem col_sum (h : BkOk sz ls) {i : Nat} (hi : i < sz.length) : wS sz (fun j => mE sz ls j i) sz.length = botP ls * sz.getD i 0 := by
  obtain ⟨l, hl⟩ : ∃ l, ls[i]? = some l := ⟨_, List.getElem?_eq_getElem (by rw [h.ll]; exact hi)⟩
  have hm := List.mem_of_getElem? hl
  have hlo := h.lot i l hl
  have hz : sz[i]? = some (sz.getD i 0) := by rw [List.getD_eq_getElem?_getD, List.getElem?_eq_getElem hi]; rfl
  have e0 : wS sz (fun j => mE sz ls j i) sz.length = wS sz (fun j => (l.2.map fun e => wgt (botP ls) l.1 e.1 * sz.getD i 0 * e.2.getD j 0).sum + if j = i then -(botP ls : Int) * sz.getD i 0 else 0) sz.length :=
    wS_congr fun j _ => by rw [mE_some hl, colS_perm, colS_wgt]
  rw [e0, wS_add, wS_one, if_pos hi, wS_sum]
  have e1 : (l.2.map fun e => wS sz (fun j => wgt (botP ls) l.1 e.1 * sz.getD i 0 * e.2.getD j 0) sz.length).sum = (l.2.map fun e => wgt (botP ls) l.1 e.1).sum * (sz.getD i 0 * (sz.getD i 0 + 1)) := by
    rw [sum_mul, List.map_map]
    refine sum_congr fun e he => ?_
    rw [wS_mul, ← dot_wS (hlo.len e he).symm, hlo.bal e he _ hz]
    show _ = wgt (botP ls) l.1 e.1 * (sz.getD i 0 * (sz.getD i 0 + 1))
    rw [Int.mul_assoc]
  rw [e1, wgt_sum h hm, Int.neg_mul, Int.mul_neg]
  generalize sz.getD i 0 = z
  generalize (botP ls : Int) = P
  rw [Int.mul_add, Int.mul_one, Int.mul_add, show z * (P * z) = P * (z * z) by ac_rfl]
  omega
theorem wS_bd {F : Nat → Int} {C : Int} (hs : ∀ z ∈ sz, 1 ≤ z ∧ z ≤ 12) (hC : 0 ≤ C) (h : ∀ j, -C ≤ F j ∧ F j ≤ C) : ∀ t : Nat, -(12 * C * t) ≤ wS sz F t ∧ wS sz F t ≤ 12 * C * t
  | 0 => by simp [wS]
  | t + 1 => by
    have ih := wS_bd hs hC h t
    have hz := getD_rng (sz := sz) (i := t) (lo := 0) (hi := 12) (by decide) fun z hz => by have := hs z hz; omega
    have hF := h t
    simp only [wS, Int.natCast_add, Int.natCast_one, Int.mul_add, Int.mul_one]
    generalize sz.getD t 0 = z at *
    generalize F t = f at *
    have a1 : z * f ≤ 12 * C := Int.le_trans (Int.mul_le_mul_of_nonneg_left hF.2 hz.1) (Int.mul_le_mul_of_nonneg_right hz.2 hC)
    have a2 : -(12 * C) ≤ z * f := by
      have b1 : z * -C ≤ z * f := Int.mul_le_mul_of_nonneg_left hF.1 hz.1
      have b2 : z * C ≤ 12 * C := Int.mul_le_mul_of_nonneg_right hz.2 hC
      rw [Int.mul_neg] at b1
      omega
    omega
end Pv

set_option maxHeartbeats 4000000
namespace Pv
local macro_rules
  | `(tactic| simp! only [$ls,*] $[$loc:location]?) => `(tactic| simp -implicitDefEqProofs only [evS, evT, evE, evP, evPs, evV, evA, evAnd, evOr, evI, Pv.a0, Pv.a1, Pv.v0, Pv.v1, opd, slotOf, satOp, Pv.two, Pv.one, ob_s, ob_n, sc_int, sc_bl, sc_str, sc_non, bd_ok, bd_exc, thenE_ok, thenE_exc, thenT_ok, thenT_exc, thenA_ok, thenI_ok, fl_nx, fl_ret, fl_exc, fl_bk, fl_ct, fl_nil, evSs_nil, asBl, asInt, un_non, un_bl, un_int, un_str, un_tup, un_lst, un_obj, un_un, fz, fzs, isSc, isScs, isFz, isFzs, isOwn, isOwns, dNeg, dT, tgA, setAll, okS, res, at2, it_tup, it_lst, chnD, lItems, tmps, cpyLoc, cpyTmp, ixTmp, ioPos, wipeD, out_ret, out_nx, out_exc, outsOf, and_self, and_true, true_and, false_and, and_false, fzs_ints, Pv.sto1, Pv.sto2, ownItems, at2_0, at2_1, at3_0, at3_1, at3_2, at4_0, at4_1, at4_2, at4_3, ix_20, ix_21, ix_40, ix_41, ix_42, ix_43, List.length_map, isFzs, d2_add, d2_sub, d2_lt, d2_le, d2_gt, d2_ge, d2_eq, d2_ne, d2_eqs, d2_eqb, d2_isn_non, d2_isn_int, d2_isn_bl, d2_isn_str, d2_isn_tup, d2_isn_lst, d2_notn_non, d2_notn_int, d2_notn_bl, d2_notn_str, d2_notn_tup, d2_notn_lst, d2_mod, d2_fdiv, Int.reduceToNat, Int.reducePow, Int.reduceEq, Int.reduceLT, Int.reduceLE, Int.reduceNeg, Int.reduceMul, Int.reduceAdd, Int.reduceSub, cst0, cst1, cst2, cst3, cst4, cst5, cst6, cst7, cst8, cst9, cst10, cst11, cst12, go_some, go_nil, sq_nx, sq_ret, sq_exc, sq_bk, sq_ct, lq_nx, lq_ct, lq_bk, lq_ret, lq_exc, lcD_eq, lcR_some, Int.toNat_natCast, ne_eq, not_false_eq_true, not_true_eq_false, dF_gcd, dF_lenL, dF_lenT, dF_int, dF_intb, dF_abs, dF_min, dF_max, dI_ii, dI_ib, dI_is, dI_il, dI_it, dI_bi, dI_bb, dI_bs, dI_bl, dI_bt, dI_si, dI_sb, dI_ss, dI_sl, dI_st, dI_li, dI_lb, dI_ls, dI_ll, dI_lt, dI_ti, dI_tb, dI_ts, dI_tl, dI_tt, dI_ni, dI_nb, dI_ns, dI_nl, dI_nt, Option.map_some, List.length_cons, List.length_nil, List.getElem?_cons_zero, List.getElem?_cons_succ, List.getElem?_nil, List.set_cons_zero, List.set_cons_succ, List.set_nil, List.map_cons, List.map_nil, List.cons_append, List.nil_append, List.append_nil, List.replicate, List.getD_cons_zero, List.getD_cons_succ, List.contains_nil, List.contains_cons, Nat.reduceBEq, Bool.or_false, Bool.false_or, Bool.or_self, Bool.or_true, Bool.true_or, List.isEmpty_nil, List.isEmpty_cons, decide_true, decide_false, if_true, if_false, Bool.false_eq_true, Bool.not_true, Bool.not_false, Bool.and_true, Bool.true_and, Bool.and_self, Bool.and_false, Bool.false_and, reduceIte, Nat.zero_add, Nat.reduceAdd, Nat.reduceSub, Nat.reduceLT, Nat.reduceLeDiff, Nat.reduceEqDiff, decide_eq_true_eq, eq_self, Option.some.injEq, reduceCtorEq, Nat.lt_irrefl, fzs_len, $ls,*] $[$loc]?)
open PySem
--@ev fzs_len
variable {sz : List Int} {ls : List Lot}
/-! ### squares of fractions -/
def frsD (o : Bool) (n : Nat) (G : Nat → Nat → Int × Int) : D := .lst o ((List.range n).map fun j => .lst o ((List.range n).map fun i => frD (G j i)))
theorem fzs_mapS {A : Type} {f : A → D} (h : ∀ a, fz (f a) = f a) (l : List A) : fzs (l.map f) = l.map f := fzs_mapF f h l
theorem fzs_frs2 {n : Nat} {G : Nat → Nat → Int × Int} (o : Bool) : fzs ((List.range n).map fun j => D.lst o ((List.range n).map fun i => frD (G j i))) = (List.range n).map fun j => D.lst false ((List.range n).map fun i => frD (G j i)) :=
  fzs_mapG _ (fun j => D.lst false ((List.range n).map fun i => frD (G j i))) (fun j => by simp only [fz]; rw [fzs_mapF _ fun _ => rfl]) _
theorem fz_frsD (o : Bool) (n : Nat) (G : Nat → Nat → Int × Int) : fz (frsD o n G) = frsD false n G := by
  simp only [frsD, fz, fzs_frs2]
theorem isOwns_mapO {A : Type} {f : A → D} (h : ∀ a, isOwn (f a) = true) : ∀ l : List A, isOwns (l.map f) = true
  | [] => rfl
  | a :: l => by simp [isOwns, h a, isOwns_mapO h l]
theorem isOwn_frsD (n : Nat) (G : Nat → Nat → Int × Int) : isOwn (frsD true n G) = true := by
  simp only [frsD, isOwn, Bool.true_and]
  refine isOwns_mapO (fun j => ?_) _
  simp only [isOwn, Bool.true_and]
  exact isOwns_mapO (fun i => rfl) _
theorem plains_mapP {A : Type} {k : Nat} {f : A → D} (h : ∀ a, plain k (f a) = true) : ∀ l : List A, plains k (l.map f) = true
  | [] => rfl
  | a :: l => by simp [plains, h a, plains_mapP h l]
theorem plain_frsD {n : Nat} (hn : n ≤ 1000) (G : Nat → Nat → Int × Int) : plain 8 (frsD false n G) = true := by
  simp only [frsD, plain, Bool.not_false, Bool.true_and, List.length_map, List.length_range, hn, decide_true]
  refine plains_mapP (fun j => ?_) _
  simp only [plain, Bool.not_false, Bool.true_and, List.length_map, List.length_range, hn, decide_true]
  exact plains_mapP (fun i => rfl) _
theorem frs_congr {o : Bool} {n : Nat} {F G : Nat → Nat → Int × Int} (h : ∀ j i, j < n → i < n → F j i = G j i) : frsD o n F = frsD o n G := by
  unfold frsD
  congr 1
  apply List.map_congr_left
  intro j hj
  congr 1
  apply List.map_congr_left
  intro i hi
  rw [List.mem_range] at hi hj
  rw [h j i hj hi]
/-! ### the matrix of a book -/
abbrev b_Book_matrix_1 : Ss := .cons (.ret (.lc (.nm 4) (.seqL (.var 1)) (.nil) (.lc (.nm 3) (.seqL (.var 4)) (.nil) (.call "lowest" F_lowest (.cons (.var 3) (.cons (.var 2) (.nil)))) [3]) [4])) (.nil)
abbrev b_Book_matrix : Ss := .cons (.asg (.tp [1, 2]) (.call "whole_matrix" F_whole_matrix (.cons (.var 0) (.nil)))) (b_Book_matrix_1)
def n_Book_matrix : Nat := 5
def m_Book_matrix : List D → Option Out := evFn 0 [false] n_Book_matrix b_Book_matrix
def F_Book_matrix : Fn := ⟨[false], m_Book_matrix⟩
theorem fzs_rngI {f : Nat → Int} (l : List Nat) : fzs (l.map fun i => D.int (f i)) = l.map fun i => D.int (f i) := fzs_mapF _ (fun _ => rfl) l
theorem fzs_rowsF {n : Nat} {F : Nat → Nat → Int} : fzs ((List.range n).map fun j => D.lst false ((List.range n).map fun i => .int (F j i))) = (List.range n).map fun j => D.lst false ((List.range n).map fun i => .int (F j i)) := fzs_mapF _ (fun j => by simp only [fz]; rw [fzs_mapF _ fun _ => rfl]) _
theorem isOwn_rowsD (n : Nat) (F : Nat → Nat → Int) : isOwn (rowsD true n F) = true := by
  simp only [rowsD, isOwn, Bool.true_and]
  refine isOwns_mapO (fun j => ?_) _
  simp only [rowD, isOwn, Bool.true_and]
  exact isOwns_mapO (fun i => rfl) _
theorem call_wm {rs : List D} {A : Arg} (h : BkOk sz ls) (h1 : res rs A = bkD false sz ls) : callD F_whole_matrix [A] rs = some (.ok (.tup [rowsD true sz.length (mE sz ls), .int (botP ls : Nat)]) rs) := call_v1 (by
  rw [h1]
  exact whole_matrix_ok h) (by simp only [isOwn, isOwns, isOwn_rowsD, Bool.and_self])
theorem Book_matrix_ok (h : BkOk sz ls) : m_Book_matrix [bkD false sz ls] = some (.ret (frsD true sz.length fun j i => lowI (mE sz ls j i) (botP ls)) []) := by
  have s6 := h.s6
  have hb := botP_bd h
  have ec := call_wm (rs := [bkD false sz ls, .un, .un, .un, .un]) (A := .loc 0) h (by rw [res_loc rfl, fz_bkD])
  unfold m_Book_matrix; refine fn_go ?_; unfold b_Book_matrix n_Book_matrix
  rw [go_cons]; simp! only [un_bkD, ec]
  rw [go_cons]; simp! only [un_rowsD, rowsD, rowD, fzs_rows, fzs_rowsF]
  rw [lc_each (fun j => .lst true ((List.range sz.length).map fun i => frD (lowI (mE sz ls j i) (botP ls)))) (by simpa using (show sz.length < 1000000 by omega)) (fun j acc hj ha => by
    rw [lcP_eq]
    simp! only [fzs_rngI]
    rw [lc_each (fun i => frD (lowI (mE sz ls j i) (botP ls))) (by simpa using (show sz.length < 1000000 by omega)) (fun i acc hi ha => by
      have el := call_lowest (a := mE sz ls j i) (b := (botP ls : Nat)) (rs := [bkD false sz ls, .lst false ((List.range sz.length).map fun j => .lst false ((List.range sz.length).map fun i => .int (mE sz ls j i))), .int (botP ls : Nat), .int (mE sz ls j i), .lst false ((List.range sz.length).map fun i => .int (mE sz ls j i))]) (A := .loc 3) (B := .loc 2) (by rw [res_loc rfl]; rfl) (by rw [res_loc rfl]; rfl) (by omega)
      rw [lcP_eq]
      simp! only [el]
      first | exact ha | exact ⟨ha, by first | trivial | rfl⟩ | exact ⟨ha, by first | trivial | rfl, by first | trivial | rfl⟩)]
    simp! only []
    first | exact ha | exact ⟨ha, by first | trivial | rfl⟩ | exact ⟨ha, by first | trivial | rfl, by first | trivial | rfl⟩)]
  simp! only [frsD]
end Pv

set_option maxHeartbeats 4000000
namespace Pv
local macro_rules
  | `(tactic| simp! only [$ls,*] $[$loc:location]?) => `(tactic| simp -implicitDefEqProofs only [evS, evT, evE, evP, evPs, evV, evA, evAnd, evOr, evI, Pv.a0, Pv.a1, Pv.v0, Pv.v1, opd, slotOf, satOp, Pv.two, Pv.one, ob_s, ob_n, sc_int, sc_bl, sc_str, sc_non, bd_ok, bd_exc, thenE_ok, thenE_exc, thenT_ok, thenT_exc, thenA_ok, thenI_ok, fl_nx, fl_ret, fl_exc, fl_bk, fl_ct, fl_nil, evSs_nil, asBl, asInt, un_non, un_bl, un_int, un_str, un_tup, un_lst, un_obj, un_un, fz, fzs, isSc, isScs, isFz, isFzs, isOwn, isOwns, dNeg, dT, tgA, setAll, okS, res, at2, it_tup, it_lst, chnD, lItems, tmps, cpyLoc, cpyTmp, ixTmp, ioPos, wipeD, out_ret, out_nx, out_exc, outsOf, and_self, and_true, true_and, false_and, and_false, fzs_ints, Pv.sto1, Pv.sto2, ownItems, at2_0, at2_1, at3_0, at3_1, at3_2, at4_0, at4_1, at4_2, at4_3, ix_20, ix_21, ix_40, ix_41, ix_42, ix_43, List.length_map, isFzs, d2_add, d2_sub, d2_lt, d2_le, d2_gt, d2_ge, d2_eq, d2_ne, d2_eqs, d2_eqb, d2_isn_non, d2_isn_int, d2_isn_bl, d2_isn_str, d2_isn_tup, d2_isn_lst, d2_notn_non, d2_notn_int, d2_notn_bl, d2_notn_str, d2_notn_tup, d2_notn_lst, d2_mod, d2_fdiv, Int.reduceToNat, Int.reducePow, Int.reduceEq, Int.reduceLT, Int.reduceLE, Int.reduceNeg, Int.reduceMul, Int.reduceAdd, Int.reduceSub, cst0, cst1, cst2, cst3, cst4, cst5, cst6, cst7, cst8, cst9, cst10, cst11, cst12, go_some, go_nil, sq_nx, sq_ret, sq_exc, sq_bk, sq_ct, lq_nx, lq_ct, lq_bk, lq_ret, lq_exc, lcD_eq, lcR_some, Int.toNat_natCast, ne_eq, not_false_eq_true, not_true_eq_false, dF_gcd, dF_lenL, dF_lenT, dF_int, dF_intb, dF_abs, dF_min, dF_max, dI_ii, dI_ib, dI_is, dI_il, dI_it, dI_bi, dI_bb, dI_bs, dI_bl, dI_bt, dI_si, dI_sb, dI_ss, dI_sl, dI_st, dI_li, dI_lb, dI_ls, dI_ll, dI_lt, dI_ti, dI_tb, dI_ts, dI_tl, dI_tt, dI_ni, dI_nb, dI_ns, dI_nl, dI_nt, Option.map_some, List.length_cons, List.length_nil, List.getElem?_cons_zero, List.getElem?_cons_succ, List.getElem?_nil, List.set_cons_zero, List.set_cons_succ, List.set_nil, List.map_cons, List.map_nil, List.cons_append, List.nil_append, List.append_nil, List.replicate, List.getD_cons_zero, List.getD_cons_succ, List.contains_nil, List.contains_cons, Nat.reduceBEq, Bool.or_false, Bool.false_or, Bool.or_self, Bool.or_true, Bool.true_or, List.isEmpty_nil, List.isEmpty_cons, decide_true, decide_false, if_true, if_false, Bool.false_eq_true, Bool.not_true, Bool.not_false, Bool.and_true, Bool.true_and, Bool.and_self, Bool.and_false, Bool.false_and, reduceIte, Nat.zero_add, Nat.reduceAdd, Nat.reduceSub, Nat.reduceLT, Nat.reduceLeDiff, Nat.reduceEqDiff, decide_eq_true_eq, eq_self, Option.some.injEq, reduceCtorEq, Nat.lt_irrefl, fzs_len, $ls,*] $[$loc]?)
open PySem
--@ev fzs_len
variable {sz : List Int} {ls : List Lot}
/-! ### calls of the law -/
theorem call_b1 {m : List D → Option Out} {a d d' v : D} {rest : List D} (e : m [d] = some (.ret v [d'])) : callD ⟨[true], m⟩ [.loc 1] (a :: d :: rest) = some (.ok v (a :: d' :: rest)) := by
  by_cases c : (isOwn v && isOwns [d']) = true
  · simp [callD, ioOf, nodupB, passD, blank, e, c, putBack]
  · simp [callD, ioOf, nodupB, passD, blank, e, c, putBack, freezeV]
theorem call_book {a d : D} {rest : List D} (hd : StOk d) : ∃ d' ow sz ls, StOk d' ∧ BkOk sz ls ∧ callD F_L_book [.loc 1] (a :: d :: rest) = some (.ok (lbD ow sz ls) (a :: d' :: rest)) := by
  obtain ⟨o, e, d', ow, sz, ls, h1, h2, rfl⟩ := book_ok hd
  exact ⟨d', ow, sz, ls, h1, h2, call_b1 e⟩
theorem un_lbD (o : Bool) : isUn (lbD o sz ls) = false := rfl
/-- the parts looked at -/
def lbH (sz : List Int) (ls : List Lot) : D := .lst true [.lst false (sz.map D.int), .lst true (ls.map lotW)]
def lbF (sz : List Int) (ls : List Lot) : D := .lst true [.lst false (sz.map D.int), .lst false (ls.map lotG)]
theorem fzs_lotW (ls : List Lot) : fzs (ls.map lotW) = ls.map lotG := fzs_mapG _ _ fz_lotW ls
theorem ix_lb0 {o : Bool} {s : Nat} {rs : List D} (h : rs[s]? = some (lbD o sz ls)) : ixLoc s (.int 0) rs = some (.ok (.lst false (sz.map D.int)) (rs.set s (lbH sz ls))) := by
  rw [ixLoc_at (c := .lst o (sz.map D.int)) h rfl rfl]
  simp only [fz, fzs_ints]
  rfl
theorem ix_lb1 {s : Nat} {rs : List D} (h : rs[s]? = some (lbH sz ls)) : ixLoc s (.int 1) rs = some (.ok (.lst false (ls.map lotG)) (rs.set s (lbF sz ls))) := by
  rw [ixLoc_at (c := .lst true (ls.map lotW)) h rfl rfl]
  simp only [fz, fzs_lotW]
  rfl
theorem ix_lb2 {s : Nat} {rs : List D} (h : rs[s]? = some (lbF sz ls)) : ixLoc s (.int 1) rs = some (.ok (.lst false (ls.map lotG)) rs) := by
  rw [ixLoc_at (c := .lst false (ls.map lotG)) h rfl rfl]
  simp only [fz, fzs_mapF _ fz_lotG]
  rw [show setAt (lbF sz ls) [.lst false (sz.map D.int), .lst false (ls.map lotG)] 1 (.lst false (ls.map lotG)) = lbF sz ls from rfl, set_same h]
theorem un_lbH : isUn (lbH sz ls) = false := rfl
theorem un_lbF : isUn (lbF sz ls) = false := rfl
theorem call_lm {rs : List D} {A B : Arg} (h : BkOk sz ls) (h1 : res rs A = .lst false (sz.map D.int)) (h2 : res rs B = .lst false (ls.map lotG)) : callD F_L_matrix [A, B] rs = some (.ok (.lst true [rowsD true sz.length (lE sz ls), .int (botL ls : Nat)]) rs) := call_v2 (by
  rw [h1, h2]
  exact L_matrix_ok h) (by simp only [isOwn, isOwns, isOwn_rowsD, Bool.and_self])
theorem isOwn_lotO (l : Lot) : isOwn (lotO l) = true := by
  simp only [lotO, isOwn, Bool.true_and]
  refine isOwns_mapO (fun e => ?_) _
  simp only [inO, isOwn, isOwns, isOwns_ints, Bool.and_self]
theorem call_rl {rs : List D} {A : Arg} (h : BkOk sz ls) (h1 : res rs A = .lst false (ls.map lotG)) : callD F_L_rules [A] rs = some (.ok (.lst true (ls.map lotO)) rs) := call_v1 (by
  rw [h1]
  exact L_rules_ok h) (by simp only [isOwn, Bool.true_and]; exact isOwns_mapO isOwn_lotO _)
theorem call_mk {m : List D → Option Out} {C : Str} {a b b1 b2 o : D} {rs : List D} (e1 : fz a = b1) (e2 : fz b = b2) (e : m [.obj true C [] [], b1, b2] = some (.ret .non [o])) : makeD C ⟨[true, false, false], m⟩ [.tmp a, .tmp b] rs = some (.ok o rs) := by
  have h0 : (rs ++ [D.obj true C [] []]).getD rs.length .un = .obj true C [] [] := by simp
  have h1 : ∀ x : D, (rs ++ [D.obj true C [] []]).set rs.length x = rs ++ [x] := fun x => by simp
  have h2 : ∀ x y : D, (rs ++ [x]).set rs.length y = rs ++ [y] := fun x y => by simp
  have h3 : ∀ x : D, (rs ++ [x]).getD rs.length .un = x := fun x => by simp
  have h4 : ∀ x : D, (rs ++ [x]).take rs.length = rs := fun x => by simp
  have h5 : callD ⟨[true, false, false], m⟩ [.loc rs.length, .tmp a, .tmp b] (rs ++ [.obj true C [] []]) = some (.ok .non (rs ++ [o])) := by
    by_cases c : (isOwn .non && isOwns [o]) = true
    · simp only [callD, ioOf, Option.map_some, nodupB, List.contains_nil, Bool.not_false, Bool.and_self, if_true, passD, blank, h0, h1, h2, res, e1, e2, e, List.length_cons, List.length_nil, c, putBack]
    · simp only [callD, ioOf, Option.map_some, nodupB, List.contains_nil, Bool.not_false, Bool.and_self, if_true, passD, blank, h0, h1, h2, res, e1, e2, e, List.length_cons, List.length_nil, c, putBack, freezeV]
      simp
  unfold makeD
  rw [h5]
  simp only [h3, h4]
theorem mk_book {rs : List D} (h : BkOk sz ls) : makeD "Book" F_Book___init__ [.tmp (.lst true (sz.map D.int)), .tmp (.lst true (ls.map lotO))] rs = some (.ok (bkD true sz ls) rs) :=
  call_mk (b1 := .lst false (sz.map D.int)) (b2 := .lst false (ls.map lotIn)) (by simp only [fz, fzs_ints]) (by simp only [fz, fzs_mapG _ _ fz_lotO]) (Book_init_ok h)
theorem objOk_mat (o : Bool) : objOk "Book" "matrix" (some (bkD o sz ls)) = true := by
  have e1 : (Str.ofString "sizes" = Str.ofString "matrix") = False := eq_false (by decide)
  have e2 : (Str.ofString "lots" = Str.ofString "matrix") = False := eq_false (by decide)
  simp [objOk, bkD, fIx, e1, e2]
theorem call_mat {s : Nat} {o : Bool} {rs : List D} (h : BkOk sz ls) (e : rs[s]? = some (bkD o sz ls)) : callD F_Book_matrix [.loc s] rs = some (.ok (frsD true sz.length fun j i => lowI (mE sz ls j i) (botP ls)) rs) := call_v1 (by
  rw [res_loc e, fz_bkD]
  exact Book_matrix_ok h) (isOwn_frsD _ _)
theorem call_sm {d : D} {rs : List D} {A B : Arg} (h1 : res rs A = d) (h2 : res rs B = d) (hp : plain 8 d = true) : callD (F_L_same 8) [A, B] rs = some (.ok (.bl true) rs) := call_v2 (by
  rw [h1, h2]
  exact same_of hp) rfl
theorem call_Lplus {p q : Int × Int} {n : Nat} {rs : List D} {A B : Arg} (hn : 0 < n) (hn2 : n ≤ 1000000) (h1 : res rs A = frD p) (h2 : res rs B = frD q) (hp : FB n p) (hq : FB n q) : callD F_L_plus [A, B] rs = some (.ok (frD (lowI (p.1 * q.2 + q.1 * p.2) (p.2 * q.2))) rs) := call_v2 (by
  rw [h1, h2]
  exact plus_eq hn hn2 hp hq) rfl
theorem call_Ltimes {p q : Int × Int} {n : Nat} {rs : List D} {A B : Arg} (hn : 0 < n) (hn2 : n ≤ 1000000) (h1 : res rs A = frD p) (h2 : res rs B = frD q) (hp : FB n p) (hq : FB n q) : callD F_L_times [A, B] rs = some (.ok (frD (lowI (p.1 * q.1) (p.2 * q.2))) rs) := call_v2 (by
  rw [h1, h2]
  exact times_eq hn hn2 hp hq) rfl
theorem sc_fr (a b : Int) : scOnly (some (.tup [.int a, .int b])) = some (.tup [.int a, .int b]) := rfl
theorem d2_nef (a b : Int) : d2 .ne (.tup [.int a, .int b]) (.tup [.int a, .int b]) = some (.bl false) := by
  have hs : PySem.SeqAt.shaped (.tuple [.int a, .int b]) = true := by
    simp [PySem.SeqAt.shaped, PyData.canLay0, PyData.canLayAll0, PyData.depth, PyData.depthAll]
  have hd : dEq (.tup [.int a, .int b]) (.tup [.int a, .int b]) = some true := by
    simp only [dEq, toPd, toPds, Option.map_some, hs, Bool.and_self, if_true, PyData.eqv, PyData.eqvAll, beq_self_eq_true]
  show (dEq (.tup [.int a, .int b]) (.tup [.int a, .int b])).map (fun k => D.bl (!k)) = _
  rw [hd]; rfl
theorem low_nn {a b : Int} (ha : 0 ≤ a) (hb : 1 ≤ b) : 0 ≤ (lowI a b).1 := by
  rw [lowI_pos hb]
  exact Int.ediv_nonneg ha (by omega)
theorem fzs_frs3 {n : Nat} {G : Nat → Nat → Int × Int} (o : Bool) : fzs ((List.range n).map fun j => D.lst o ((List.range n).map fun i => .tup [.int (G j i).1, .int (G j i).2])) = (List.range n).map fun j => D.lst false ((List.range n).map fun i => .tup [.int (G j i).1, .int (G j i).2]) := fzs_frs2 o
set_option exponentiation.threshold 5000
abbrev b_law_21 : Ss := .cons (.ret (.call "_law_same" (F_L_same 8) (.cons (.meth 6 "Book" "matrix" F_Book_matrix (.nil)) (.cons (.var 7) (.nil))))) (.nil)
abbrev b_law_20 : Ss := .cons (.app 8 (.con (.int 1))) (b_law_21)
abbrev b_law_19 : Ss := .cons (.sto1 12 (.con (.int 0)) (.tup (.cons (.con (.int 5)) (.cons (.con (.int 1)) (.nil))))) (b_law_20)
abbrev b_law_18 : Ss := .cons (.asg (.nm 12) (.mvix 8 (.con (.int 0)))) (b_law_19)
abbrev b_law_17 : Ss := .cons (.ret (.con (.bl false))) (.nil)
abbrev b_law_16 : Ss := .cons (.ite (.op2 .ne (.var 10) (.tup (.cons (.ix (.var 3) (.var 9)) (.cons (.con (.int 1)) (.nil))))) (b_law_17) (.nil)) (.nil)
abbrev b_law_15 : Ss := .cons (.asg (.nm 10) (.call "_law_plus" F_L_plus (.cons (.var 10) (.cons (.call "_law_times" F_L_times (.cons (.tup (.cons (.ix (.var 3) (.var 11)) (.cons (.con (.int 1)) (.nil)))) (.cons (.pk (.ix (.ix (.var 8) (.var 11)) (.var 9))) (.nil)))) (.nil))))) (.nil)
abbrev b_law_14 : Ss := .cons (.ret (.con (.bl false))) (.nil)
abbrev b_law_13 : Ss := .cons (.ite (.land (.cons (.pk (.op2 .ne (.var 9) (.var 11))) (.cons (.pk (.op2 .lt (.ix (.ix (.ix (.var 8) (.var 11)) (.var 9)) (.con (.int 0))) (.con (.int 0)))) (.nil)))) (b_law_14) (.nil)) (b_law_15)
abbrev b_law_12 : Ss := .cons (.for_ (.nm 11) (.rng1 (.cons (.var 4) (.nil))) (b_law_13)) (b_law_16)
abbrev b_law_11 : Ss := .cons (.asg (.nm 10) (.tup (.cons (.con (.int 0)) (.cons (.con (.int 1)) (.nil))))) (b_law_12)
abbrev b_law_10 : Ss := .cons (.for_ (.nm 9) (.rng1 (.cons (.var 4) (.nil))) (b_law_11)) (b_law_18)
abbrev b_law_9 : Ss := .cons (.ret (.con (.bl false))) (.nil)
abbrev b_law_8 : Ss := .cons (.ite (.lnot (.call "_law_same" (F_L_same 8) (.cons (.var 8) (.cons (.var 7) (.nil))))) (b_law_9) (.nil)) (b_law_10)
abbrev b_law_7 : Ss := .cons (.asg (.nm 8) (.meth 6 "Book" "matrix" F_Book_matrix (.nil))) (b_law_8)
abbrev b_law_6 : Ss := .cons (.asg (.nm 7) (.lc (.nm 12) (.seqL (.ix (.var 5) (.con (.int 0)))) (.nil) (.lc (.nm 13) (.seqL (.var 12)) (.nil) (.call "_law_low" F_L_low (.cons (.var 13) (.cons (.ix (.var 5) (.con (.int 1))) (.nil)))) [13]) [12])) (b_law_7)
abbrev b_law_5 : Ss := .cons (.asg (.nm 6) (.make "Book" F_Book___init__ (.cons (.cpy (.var 3)) (.cons (.call "_law_rules" F_L_rules (.cons (.ix (.var 2) (.con (.int 1))) (.nil))) (.nil))))) (b_law_6)
abbrev b_law_4 : Ss := .cons (.asg (.nm 5) (.call "_law_matrix" F_L_matrix (.cons (.var 3) (.cons (.ix (.var 2) (.con (.int 1))) (.nil))))) (b_law_5)
abbrev b_law_3 : Ss := .cons (.asg (.nm 4) (.pk (.fnc .len (.cons (.var 3) (.nil))))) (b_law_4)
abbrev b_law_2 : Ss := .cons (.asg (.nm 3) (.ix (.var 2) (.con (.int 0)))) (b_law_3)
abbrev b_law_1 : Ss := .cons (.asg (.nm 2) (.call "_law_book" F_L_book (.cons (.var 1) (.nil)))) (b_law_2)
abbrev b_law : Ss := .cons (.asg (.nm 1) (.call "_law_start" F_L_start (.cons (.var 0) (.nil)))) (b_law_1)
def n_law : Nat := 14
/-- a column -/
theorem law_col {Q : Fl → Prop} {a d lb mt due x y : D} {ob : Bool} {i n : Nat} (h : BkOk sz ls) (hn : sz.length = n) (hi : i < n)
    (kk : ∀ z, Q (.nx [a, d, lb, .lst false (sz.map D.int), .int (n : Nat), mt, bkD ob sz ls, due, frsD true n (fun j i => lowI (mE sz ls j i) (botP ls)), .int (i : Nat), .tup [.int (sz.getD i 0), .int 1], z, x, y])) (z : D) :
    Go (forL (tgA [] (.nm 11)) (evSs 0 [] b_law_13) (rngD 0 n) [a, d, lb, .lst false (sz.map D.int), .int (n : Nat), mt, bkD ob sz ls, due, frsD true n (fun j i => lowI (mE sz ls j i) (botP ls)), .int (i : Nat), .tup [.int 0, .int 1], z, x, y]) Q := by
  have hb := botP_bd h
  have h6 := h.s6
  refine go_rng0 (P := fun j rs => ∃ z, rs = [a, d, lb, .lst false (sz.map D.int), .int (n : Nat), mt, bkD ob sz ls, due, frsD true n (fun j i => lowI (mE sz ls j i) (botP ls)), .int (i : Nat), frD (lowI (wS sz (fun j => mE sz ls j i) j) (botP ls)), z, x, y]) ⟨z, by rw [wS, low_zero (by omega)]; rfl⟩ ?_ ?_
  · rintro j rs hj ⟨z, rfl⟩
    refine ⟨_, rfl, ?_⟩
    have hzj := at_getD (ns := sz) (j := j) (by omega)
    have hz12 : 1 ≤ sz.getD j 0 ∧ sz.getD j 0 ≤ 12 := h.sb _ (by rw [List.getD_eq_getElem?_getD, List.getElem?_eq_getElem (show j < sz.length by omega)]; exact List.getElem_mem _)
    have hmb := m_bd h i j
    have hws := wS_bd (F := fun j => mE sz ls j i) (C := 2 ^ 160) h.sb (by decide) (fun j => by have := m_bd h i j; omega) j
    have hwn : (12 : Int) * 2 ^ 160 * j ≤ 12 * 2 ^ 160 * 6 := Int.mul_le_mul_of_nonneg_left (by omega) (by decide)
    have f1 : FB 400 (sz.getD j 0, 1) := ⟨by dsimp only; omega, by show (1 : Int) ≤ 1; decide, by show (1 : Int).natAbs < 2 ^ 400; decide⟩
    have f2 : FB 400 (lowI (mE sz ls j i) (botP ls)) := lowI_fb (by omega) (by omega) (by omega)
    have f3 : FB 400 (lowI (wS sz (fun j => mE sz ls j i) j) (botP ls)) := lowI_fb (by omega) (by omega) (by omega)
    have hmul : lowI (sz.getD j 0 * (lowI (mE sz ls j i) (botP ls)).1) (1 * (lowI (mE sz ls j i) (botP ls)).2) = lowI (sz.getD j 0 * mE sz ls j i) (botP ls) := by
      have := lowI_mul (a := sz.getD j 0) (b := 1) (c := mE sz ls j i) (d := botP ls) (by decide) (by omega)
      rw [low_one] at this
      simpa only [Int.one_mul] using this
    have hzm : (sz.getD j 0 * mE sz ls j i).natAbs < 2 ^ 400 := by
      have := mul_step (show (sz.getD j 0).natAbs < 2 ^ 10 by omega) hmb
      omega
    have f4 : FB 400 (lowI (sz.getD j 0 * mE sz ls j i) (botP ls)) := lowI_fb hzm (by omega) (by omega)
    have ct := call_Ltimes (n := 400) (p := (sz.getD j 0, 1)) (q := lowI (mE sz ls j i) (botP ls)) (rs := [a, d, lb, .lst false (sz.map D.int), .int (n : Nat), mt, bkD ob sz ls, due, frsD true n (fun j i => lowI (mE sz ls j i) (botP ls)), .int (i : Nat), frD (lowI (wS sz (fun j => mE sz ls j i) j) (botP ls)), .int (j : Nat), x, y]) (A := .tmp (.tup [.int (sz.getD j 0), .int 1])) (B := .tmp (frD (lowI (mE sz ls j i) (botP ls)))) (by decide) (by decide) rfl rfl f1 f2
    dsimp only at ct
    rw [hmul] at ct
    have cp := call_Lplus (n := 400) (p := lowI (wS sz (fun j => mE sz ls j i) j) (botP ls)) (q := lowI (sz.getD j 0 * mE sz ls j i) (botP ls)) (rs := [a, d, lb, .lst false (sz.map D.int), .int (n : Nat), mt, bkD ob sz ls, due, frsD true n (fun j i => lowI (mE sz ls j i) (botP ls)), .int (i : Nat), frD (lowI (wS sz (fun j => mE sz ls j i) j) (botP ls)), .int (j : Nat), x, y]) (A := .loc 10) (B := .tmp (frD (lowI (sz.getD j 0 * mE sz ls j i) (botP ls)))) (by decide) (by decide) rfl rfl f3 f4
    rw [low_add (by omega), show wS sz (fun j => mE sz ls j i) j + sz.getD j 0 * mE sz ls j i = wS sz (fun j => mE sz ls j i) (j + 1) from rfl] at cp
    have hnn : i ≠ j → ¬ (lowI (mE sz ls j i) (botP ls)).1 < 0 := fun hij => by
      have := low_nn (m_nn h hij) (show (1 : Int) ≤ botP ls by omega)
      omega
    unfold frsD frD at ct cp ⊢
    generalize hG : (fun j i => lowI (mE sz ls j i) (botP ls)) = G at *
    have gji : lowI (mE sz ls j i) (botP ls) = G j i := by rw [← hG]
    rw [gji] at ct hnn
    have fin : Go (evSs 0 [] b_law_15 [a, d, lb, .lst false (sz.map D.int), .int (n : Nat), mt, bkD ob sz ls, due, .lst true ((List.range n).map fun j => .lst true ((List.range n).map fun i => .tup [.int (G j i).1, .int (G j i).2])), .int (i : Nat), .tup [.int (lowI (wS sz (fun j => mE sz ls j i) j) (botP ls)).1, .int (lowI (wS sz (fun j => mE sz ls j i) j) (botP ls)).2], .int (j : Nat), x, y]) (lpQ (fun rs => ∃ z, rs = [a, d, lb, .lst false (sz.map D.int), .int (n : Nat), mt, bkD ob sz ls, due, .lst true ((List.range n).map fun j => .lst true ((List.range n).map fun i => .tup [.int (G j i).1, .int (G j i).2])), .int (i : Nat), .tup [.int (lowI (wS sz (fun j => mE sz ls j i) (j + 1)) (botP ls)).1, .int (lowI (wS sz (fun j => mE sz ls j i) (j + 1)) (botP ls)).2], z, x, y]) Q) := by
      rw [go_cons]; simp! only [ixLoc, hzj, isFz, fzs_frs3, at_rng _ hj, at_rng _ hi, sc_fr, ct, cp]
      exact ⟨_, rfl⟩
    by_cases hij : i = j
    · have hc : ((i : Int) = (j : Int)) = True := eq_true (by omega)
      rw [go_cons]; simp! only [hc]
      exact fin
    · have hc : ((i : Int) = (j : Int)) = False := eq_false (by omega)
      rw [go_cons]; simp! only [hc, fzs_frs3, at_rng _ hj, at_rng _ hi, hnn hij]
      exact fin
  · rintro rs ⟨z, rfl⟩
    have e1 := col_sum h (show i < sz.length by omega)
    rw [hn] at e1
    have e2 : lowI ((botP ls : Int) * sz.getD i 0) (botP ls) = (sz.getD i 0, 1) := by
      rw [← low_one (sz.getD i 0)]
      exact lowI_eq (by omega) (by decide) (by rw [Int.mul_one, Int.mul_comm])
    have := kk z
    rw [e1, e2]
    exact this
theorem law_of {N : Nat} {b : Ss} (h : ∀ cs : List Int, evFn 0 [false] N b [.lst false (cs.map D.int)] = some (.ret (.bl true) [])) : ∀ ds o, mLaw ds = some o → ∃ n, evFn n [false] N b ds = some o := by
  intro ds o h0
  refine ⟨0, ?_⟩
  unfold mLaw at h0
  split at h0
  case isFalse => cases h0
  rename_i hs
  cases h0
  unfold scriptB at hs
  split at hs
  case h_2 => cases hs
  rename_i xs
  split at hs
  case h_2 => cases hs
  rename_i ns hx
  have hx := intsOf_some hx
  subst hx
  exact h ns
theorem rng_succ_set {n : Nat} (hn : 0 < n) : L2.ixN n 0 = some 0 := by
  unfold L2.ixN; rw [if_pos (by omega), if_pos (by omega)]; rfl
theorem law_ok (cs : List Int) : evFn 0 [false] 14 b_law [.lst false (cs.map D.int)] = some (.ret (.bl true) []) := by
  refine fn_go ?_
  obtain ⟨d0, hd0, e1⟩ := start_ok (cs := cs) (rs := [.lst false (cs.map D.int), .un, .un, .un, .un, .un, .un, .un, .un, .un, .un, .un, .un, .un]) (s := 0) rfl
  rw [go_cons]; simp! only [e1]
  obtain ⟨d1, ow, sz, ls, hd1, h, e2⟩ := call_book (a := .lst false (cs.map D.int)) (rest := [.un, .un, .un, .un, .un, .un, .un, .un, .un, .un, .un, .un]) hd0
  have s1 := h.s1
  have s6 := h.s6
  have hbP := botP_bd h
  have hbL := botL_bd h
  have hr : rngB ((sz.length : Nat) : Int) = true := rngB_len (by omega)
  rw [go_cons]; simp! only [hd0.un, e2]
  have e3 := ix_lb0 (sz := sz) (ls := ls) (o := ow) (s := 2) (rs := [.lst false (cs.map D.int), d1, lbD ow sz ls, .un, .un, .un, .un, .un, .un, .un, .un, .un, .un, .un]) rfl
  rw [go_cons]; simp! only [un_lbD, e3]
  rw [go_cons]; simp! only []
  have e4 := ix_lb1 (sz := sz) (ls := ls) (s := 2) (rs := [.lst false (cs.map D.int), d1, lbH sz ls, .lst false (sz.map D.int), .int sz.length, .un, .un, .un, .un, .un, .un, .un, .un, .un]) rfl
  have e5 := call_lm (rs := [.lst false (cs.map D.int), d1, lbF sz ls, .lst false (sz.map D.int), .int sz.length, .un, .un, .un, .un, .un, .un, .un, .un, .un]) (A := .loc 3) (B := .tmp (.lst false (ls.map lotG))) h (by rw [res_loc rfl]; simp only [fz, fzs_ints]) (by simp only [res, fz, fzs_mapF _ fz_lotG])
  rw [go_cons]; simp! only [un_lbH, e4, e5]
  generalize hmt : D.lst true [rowsD true sz.length (lE sz ls), .int (botL ls : Nat)] = mt at *
  have e6 := ix_lb2 (sz := sz) (ls := ls) (s := 2) (rs := [.lst false (cs.map D.int), d1, lbF sz ls, .lst false (sz.map D.int), .int sz.length, mt, .un, .un, .un, .un, .un, .un, .un, .un]) rfl
  have e7 := call_rl (rs := [.lst false (cs.map D.int), d1, lbF sz ls, .lst false (sz.map D.int), .int sz.length, mt, .un, .un, .un, .un, .un, .un, .un, .un]) (A := .tmp (.lst false (ls.map lotG))) h (by simp only [res, fz, fzs_mapF _ fz_lotG])
  have e8 := mk_book (rs := [.lst false (cs.map D.int), d1, lbF sz ls, .lst false (sz.map D.int), .int sz.length, mt, .un, .un, .un, .un, .un, .un, .un, .un]) h
  rw [go_cons]; simp! only [cpyLoc, isFzs_ints, un_lbF, e6, e7, e8]
  subst hmt
  have i0 : ixLoc 5 (.int 0) [.lst false (cs.map D.int), d1, lbF sz ls, .lst false (sz.map D.int), .int sz.length, .lst true [rowsD true sz.length (lE sz ls), .int (botL ls : Nat)], bkD true sz ls, .un, .un, .un, .un, .un, .un, .un] = some (.ok (rowsD false sz.length (lE sz ls)) [.lst false (cs.map D.int), d1, lbF sz ls, .lst false (sz.map D.int), .int sz.length, .lst true [rowsD false sz.length (lE sz ls), .int (botL ls : Nat)], bkD true sz ls, .un, .un, .un, .un, .un, .un, .un]) := by
    rw [ixLoc_at (c := rowsD true sz.length (lE sz ls)) rfl rfl rfl, fz_rowsD]; rfl
  rw [go_cons]; simp! only [i0, fz_rowsD, it_rows]
  have r1 : ∀ (j : Nat) (x : D), rowD false sz.length (lE sz ls j) = .lst false ((List.range sz.length).map fun i => .int (lE sz ls j i)) := fun _ _ => rfl
  rw [lc_each (fun j => .lst true ((List.range sz.length).map fun i => frD (lowI (lE sz ls j i) (botL ls)))) (by simpa using (show sz.length < 1000000 by omega)) (fun j acc hj ha => by
    rw [lcP_eq]
    simp! only [rowD, fzs_rngI]
    rw [lc_each (fun i => frD (lowI (lE sz ls j i) (botL ls))) (by simpa using (show sz.length < 1000000 by omega)) (fun i acc hi ha => by
      have i1 : ixLoc 5 (.int 1) [.lst false (cs.map D.int), d1, lbF sz ls, .lst false (sz.map D.int), .int sz.length, .lst true [rowsD false sz.length (lE sz ls), .int (botL ls : Nat)], bkD true sz ls, .un, .un, .un, .un, .un, .lst false ((List.range sz.length).map fun i => .int (lE sz ls j i)), .int (lE sz ls j i)] = some (.ok (.int (botL ls : Nat)) [.lst false (cs.map D.int), d1, lbF sz ls, .lst false (sz.map D.int), .int sz.length, .lst true [rowsD false sz.length (lE sz ls), .int (botL ls : Nat)], bkD true sz ls, .un, .un, .un, .un, .un, .lst false ((List.range sz.length).map fun i => .int (lE sz ls j i)), .int (lE sz ls j i)]) := by
        rw [ixLoc_at (c := .int (botL ls : Nat)) rfl rfl rfl]; rfl
      have el := call_L_low (a := lE sz ls j i) (b := (botL ls : Nat)) (rs := [.lst false (cs.map D.int), d1, lbF sz ls, .lst false (sz.map D.int), .int sz.length, .lst true [rowsD false sz.length (lE sz ls), .int (botL ls : Nat)], bkD true sz ls, .un, .un, .un, .un, .un, .lst false ((List.range sz.length).map fun i => .int (lE sz ls j i)), .int (lE sz ls j i)]) (A := .loc 13) (B := .tmp (.int (botL ls : Nat))) (by rw [res_loc rfl]; rfl) rfl (by omega)
      rw [lcP_eq]
      simp! only [i1, el]
      first | exact ha | exact ⟨ha, by first | trivial | rfl⟩ | exact ⟨ha, by first | trivial | rfl, by first | trivial | rfl⟩)]
    simp! only []
    first | exact ha | exact ⟨ha, by first | trivial | rfl⟩ | exact ⟨ha, by first | trivial | rfl, by first | trivial | rfl⟩)]
  simp! only []
  rw [show D.lst true ((List.range sz.length).map fun j => .lst true ((List.range sz.length).map fun i => frD (lowI (lE sz ls j i) (botL ls)))) = frsD true sz.length (fun j i => lowI (lE sz ls j i) (botL ls)) from rfl, frs_congr (G := fun j i => lowI (mE sz ls j i) (botP ls)) fun j i hj hi => (lowI_eq (by omega) (by omega) (m_cross h hi j)).symm]
  generalize hmt : D.lst true [rowsD false sz.length (lE sz ls), .int (botL ls : Nat)] = mt at *
  have e9 := call_mat (s := 6) (o := true) (rs := [.lst false (cs.map D.int), d1, lbF sz ls, .lst false (sz.map D.int), .int sz.length, mt, bkD true sz ls, frsD true sz.length (fun j i => lowI (mE sz ls j i) (botP ls)), .un, .un, .un, .un, .un, .un]) h rfl
  rw [go_cons]; simp! only [objOk_mat, e9]
  have un_frs : ∀ o G, isUn (frsD o sz.length G) = false := fun _ _ => rfl
  have e10 := call_sm (d := frsD false sz.length (fun j i => lowI (mE sz ls j i) (botP ls))) (rs := [.lst false (cs.map D.int), d1, lbF sz ls, .lst false (sz.map D.int), .int sz.length, mt, bkD true sz ls, frsD true sz.length (fun j i => lowI (mE sz ls j i) (botP ls)), frsD true sz.length (fun j i => lowI (mE sz ls j i) (botP ls)), .un, .un, .un, .un, .un]) (A := .loc 8) (B := .loc 7) (by rw [res_loc rfl, fz_frsD]) (by rw [res_loc rfl, fz_frsD]) (plain_frsD (by omega) _)
  rw [go_cons]; simp! only [un_frs, e10]
  rw [go_cons]; simp! only [hr]
  refine go_rng0 (P := fun i rs => ∃ x y z, rs = [.lst false (cs.map D.int), d1, lbF sz ls, .lst false (sz.map D.int), .int sz.length, mt, bkD true sz ls, frsD true sz.length (fun j i => lowI (mE sz ls j i) (botP ls)), frsD true sz.length (fun j i => lowI (mE sz ls j i) (botP ls)), x, y, z, .un, .un]) ⟨_, _, _, rfl⟩ ?_ ?_
  · rintro i rs hi ⟨x, y, z, rfl⟩
    refine ⟨_, rfl, ?_⟩
    rw [go_cons]; simp! only []
    rw [go_cons]; simp! only [hr]
    refine law_col (ob := true) h rfl hi (fun z => ?_) z
    simp! only []
    have hzi := at_getD (ns := sz) (j := i) (by omega)
    rw [go_cons]; simp! only [ixLoc, hzi, isFz, d2_nef]
    exact ⟨_, _, _, rfl⟩
  · rintro rs ⟨x, y, z, rfl⟩
    simp! only []
    have ix0 := rng_succ_set (n := sz.length) (by omega)
    have g0 : ∀ f : Nat → D, L2.atI ((List.range sz.length).map f) 0 = some (f 0) := fun f => at_rng (j := 0) f (by omega)
    have mv : mvLoc 8 (.int 0) [.lst false (cs.map D.int), d1, lbF sz ls, .lst false (sz.map D.int), .int sz.length, mt, bkD true sz ls, frsD true sz.length (fun j i => lowI (mE sz ls j i) (botP ls)), frsD true sz.length (fun j i => lowI (mE sz ls j i) (botP ls)), x, y, z, .un, .un] = some (.ok (.lst true ((List.range sz.length).map fun i => frD (lowI (mE sz ls 0 i) (botP ls)))) [.lst false (cs.map D.int), d1, lbF sz ls, .lst false (sz.map D.int), .int sz.length, mt, bkD true sz ls, frsD true sz.length (fun j i => lowI (mE sz ls j i) (botP ls)), .lst true (((List.range sz.length).map fun j => .lst true ((List.range sz.length).map fun i => frD (lowI (mE sz ls j i) (botP ls)))).set 0 .un), x, y, z, .un, .un]) := by
      simp only [mvLoc, List.getElem?_cons_succ, List.getElem?_cons_zero, ob_s, frsD, it_lst, g0, un_lst, Bool.false_eq_true, if_false, setAt, List.length_map, List.length_range, ix0, withItems, List.set_cons_succ, List.set_cons_zero]
    rw [go_cons]; simp! only [un_frs, mv]
    rw [go_cons]; simp! only [asInt, List.length_range, ix0]
    have hl : sz.length < 1000000 := by omega
    rw [go_cons]; simp! only [isOwnL, app1, List.length_set, List.length_range, hl]
    generalize D.lst true (((List.range sz.length).map fun j => D.lst true ((List.range sz.length).map fun i => frD (lowI (mE sz ls j i) (botP ls)))).set 0 .un ++ [.int 1]) = T
    generalize D.lst true (((List.range sz.length).map fun i => frD (lowI (mE sz ls 0 i) (botP ls))).set 0 (.tup [.int 5, .int 1])) = L
    have e11 := call_mat (s := 6) (o := true) (rs := [.lst false (cs.map D.int), d1, lbF sz ls, .lst false (sz.map D.int), .int sz.length, mt, bkD true sz ls, frsD true sz.length (fun j i => lowI (mE sz ls j i) (botP ls)), T, x, y, z, L, .un]) h rfl
    have e12 := call_sm (d := frsD false sz.length (fun j i => lowI (mE sz ls j i) (botP ls))) (rs := [.lst false (cs.map D.int), d1, lbF sz ls, .lst false (sz.map D.int), .int sz.length, mt, bkD true sz ls, frsD true sz.length (fun j i => lowI (mE sz ls j i) (botP ls)), T, x, y, z, L, .un]) (A := .tmp (frsD true sz.length (fun j i => lowI (mE sz ls j i) (botP ls)))) (B := .loc 7) (by simp only [res, fz_frsD]) (by rw [res_loc rfl, fz_frsD]) (plain_frsD (by omega) _)
    rw [go_cons]; simp! only [objOk_mat, e11, un_frs, e12]
theorem hm_law : ∀ ds o, mLaw ds = some o → ∃ n, evFn n [false] 14 b_law ds = some o := law_of law_ok
end Pv

namespace HdT
open PySem PySem.Spec PyProof.Rows L2 Pv
def top (i : Nat) : Stmt := PySem.Challenge.pw_pageshares_k06_matrix_of_a_book.main.body.getD i (.Pass ⟨0, 0, 0, 0⟩)
abbrev s_wall : Stmt := top 1
abbrev s_InvalidFraction_init : Stmt := inClass (top 4) 0
abbrev s_InvalidBound_init : Stmt := inClass (top 5) 0
abbrev s_InvalidBook_init : Stmt := inClass (top 6) 0
abbrev s_lowest : Stmt := top 10
abbrev s_plus : Stmt := top 11
abbrev s_total : Stmt := top 12
abbrev s_common_bottom : Stmt := top 13
abbrev s_is_whole : Stmt := top 15
abbrev s_is_fraction : Stmt := top 16
abbrev s_checked : Stmt := top 17
abbrev s_check_between : Stmt := top 19
abbrev s_check_weights : Stmt := top 26
abbrev s_has_form : Stmt := top 27
abbrev s_are_chances : Stmt := top 28
abbrev s_is_outcome : Stmt := top 29
abbrev s_weight_of : Stmt := top 30
abbrev s_check_lottery : Stmt := top 31
abbrev s_check_rules : Stmt := top 32
abbrev s_Book_init : Stmt := inClass (top 34) 0
abbrev s_Book_len : Stmt := inClass (top 34) 1
abbrev s_Book_eq : Stmt := inClass (top 34) 2
abbrev s_Book_getitem : Stmt := inClass (top 34) 3
abbrev s_Book_iter : Stmt := inClass (top 34) 4
abbrev s_Book_weights : Stmt := inClass (top 34) 5
abbrev s_Book_is_sure : Stmt := inClass (top 34) 6
abbrev s_Book_mean_outcome : Stmt := inClass (top 34) 7
abbrev s_Book_matrix : Stmt := inClass (top 34) 8
abbrev s_Book_with_lottery : Stmt := inClass (top 34) 9
abbrev s_Book_renamed : Stmt := inClass (top 34) 10
abbrev s_whole_matrix : Stmt := top 35
abbrev s_L_is_int : Stmt := top 37
abbrev s_L_same : Stmt := top 38
abbrev s_L_gcd : Stmt := top 39
abbrev s_L_low : Stmt := top 40
abbrev s_L_plus : Stmt := top 41
abbrev s_L_times : Stmt := top 42
abbrev s_L_start : Stmt := top 43
abbrev s_L_pull : Stmt := top 44
abbrev s_L_room : Stmt := top 45
abbrev s_L_outcome : Stmt := top 46
abbrev s_L_lottery : Stmt := top 47
abbrev s_L_sizes : Stmt := top 48
abbrev s_L_tree : Stmt := top 49
abbrev s_L_book : Stmt := top 50
abbrev s_L_rules : Stmt := top 51
abbrev s_L_matrix : Stmt := top 52
abbrev s_law : Stmt := top 53
def d_wall : He.DefD := ⟨("_wall", none), "_wall", "_wall", defArgs s_wall, defBody s_wall, defScope s_wall, [], []⟩
def d_InvalidFraction_init : He.DefD := ⟨("InvalidFraction", some "__init__"), "__init__", "InvalidFraction.__init__", defArgs s_InvalidFraction_init, defBody s_InvalidFraction_init, defScope s_InvalidFraction_init, [], []⟩
def d_InvalidBound_init : He.DefD := ⟨("InvalidBound", some "__init__"), "__init__", "InvalidBound.__init__", defArgs s_InvalidBound_init, defBody s_InvalidBound_init, defScope s_InvalidBound_init, [], []⟩
def d_InvalidBook_init : He.DefD := ⟨("InvalidBook", some "__init__"), "__init__", "InvalidBook.__init__", defArgs s_InvalidBook_init, defBody s_InvalidBook_init, defScope s_InvalidBook_init, [], []⟩
def d_lowest : He.DefD := ⟨("lowest", none), "lowest", "lowest", defArgs s_lowest, defBody s_lowest, defScope s_lowest, [], []⟩
def d_plus : He.DefD := ⟨("plus", none), "plus", "plus", defArgs s_plus, defBody s_plus, defScope s_plus, [], []⟩
def d_total : He.DefD := ⟨("total", none), "total", "total", defArgs s_total, defBody s_total, defScope s_total, [], []⟩
def d_common_bottom : He.DefD := ⟨("common_bottom", none), "common_bottom", "common_bottom", defArgs s_common_bottom, defBody s_common_bottom, defScope s_common_bottom, [], []⟩
def d_is_whole : He.DefD := ⟨("is_whole", none), "is_whole", "is_whole", defArgs s_is_whole, defBody s_is_whole, defScope s_is_whole, [], []⟩
def d_is_fraction : He.DefD := ⟨("is_fraction", none), "is_fraction", "is_fraction", defArgs s_is_fraction, defBody s_is_fraction, defScope s_is_fraction, [], []⟩
def d_checked : He.DefD := ⟨("checked", none), "checked", "checked", defArgs s_checked, defBody s_checked, defScope s_checked, [], []⟩
def d_check_between : He.DefD := ⟨("check_between", none), "check_between", "check_between", defArgs s_check_between, defBody s_check_between, defScope s_check_between, [], []⟩
def d_check_weights : He.DefD := ⟨("check_weights", none), "check_weights", "check_weights", defArgs s_check_weights, defBody s_check_weights, defScope s_check_weights, [], []⟩
def d_has_form : He.DefD := ⟨("has_form", none), "has_form", "has_form", defArgs s_has_form, defBody s_has_form, defScope s_has_form, [], []⟩
def d_are_chances : He.DefD := ⟨("are_chances", none), "are_chances", "are_chances", defArgs s_are_chances, defBody s_are_chances, defScope s_are_chances, [], []⟩
def d_is_outcome : He.DefD := ⟨("is_outcome", none), "is_outcome", "is_outcome", defArgs s_is_outcome, defBody s_is_outcome, defScope s_is_outcome, [], []⟩
def d_weight_of : He.DefD := ⟨("weight_of", none), "weight_of", "weight_of", defArgs s_weight_of, defBody s_weight_of, defScope s_weight_of, [], []⟩
def d_check_lottery : He.DefD := ⟨("check_lottery", none), "check_lottery", "check_lottery", defArgs s_check_lottery, defBody s_check_lottery, defScope s_check_lottery, [], []⟩
def d_check_rules : He.DefD := ⟨("check_rules", none), "check_rules", "check_rules", defArgs s_check_rules, defBody s_check_rules, defScope s_check_rules, [], []⟩
def d_Book_init : He.DefD := ⟨("Book", some "__init__"), "__init__", "Book.__init__", defArgs s_Book_init, defBody s_Book_init, defScope s_Book_init, [], []⟩
def d_Book_len : He.DefD := ⟨("Book", some "__len__"), "__len__", "Book.__len__", defArgs s_Book_len, defBody s_Book_len, defScope s_Book_len, [], []⟩
def d_Book_eq : He.DefD := ⟨("Book", some "__eq__"), "__eq__", "Book.__eq__", defArgs s_Book_eq, defBody s_Book_eq, defScope s_Book_eq, [], []⟩
def d_Book_getitem : He.DefD := ⟨("Book", some "__getitem__"), "__getitem__", "Book.__getitem__", defArgs s_Book_getitem, defBody s_Book_getitem, defScope s_Book_getitem, [], []⟩
def d_Book_iter : He.DefD := ⟨("Book", some "__iter__"), "__iter__", "Book.__iter__", defArgs s_Book_iter, defBody s_Book_iter, defScope s_Book_iter, [], []⟩
def d_Book_weights : He.DefD := ⟨("Book", some "weights"), "weights", "Book.weights", defArgs s_Book_weights, defBody s_Book_weights, defScope s_Book_weights, [], []⟩
def d_Book_is_sure : He.DefD := ⟨("Book", some "is_sure"), "is_sure", "Book.is_sure", defArgs s_Book_is_sure, defBody s_Book_is_sure, defScope s_Book_is_sure, [], []⟩
def d_Book_mean_outcome : He.DefD := ⟨("Book", some "mean_outcome"), "mean_outcome", "Book.mean_outcome", defArgs s_Book_mean_outcome, defBody s_Book_mean_outcome, defScope s_Book_mean_outcome, [], []⟩
def d_Book_matrix : He.DefD := ⟨("Book", some "matrix"), "matrix", "Book.matrix", defArgs s_Book_matrix, defBody s_Book_matrix, defScope s_Book_matrix, [], []⟩
def d_Book_with_lottery : He.DefD := ⟨("Book", some "with_lottery"), "with_lottery", "Book.with_lottery", defArgs s_Book_with_lottery, defBody s_Book_with_lottery, defScope s_Book_with_lottery, [], []⟩
def d_Book_renamed : He.DefD := ⟨("Book", some "renamed"), "renamed", "Book.renamed", defArgs s_Book_renamed, defBody s_Book_renamed, defScope s_Book_renamed, [], []⟩
def d_whole_matrix : He.DefD := ⟨("whole_matrix", none), "whole_matrix", "whole_matrix", defArgs s_whole_matrix, defBody s_whole_matrix, defScope s_whole_matrix, [], []⟩
def d_L_is_int : He.DefD := ⟨("_law_is_int", none), "_law_is_int", "_law_is_int", defArgs s_L_is_int, defBody s_L_is_int, defScope s_L_is_int, [], []⟩
def d_L_same : He.DefD := ⟨("_law_same", none), "_law_same", "_law_same", defArgs s_L_same, defBody s_L_same, defScope s_L_same, [], []⟩
def d_L_gcd : He.DefD := ⟨("_law_gcd", none), "_law_gcd", "_law_gcd", defArgs s_L_gcd, defBody s_L_gcd, defScope s_L_gcd, [], []⟩
def d_L_low : He.DefD := ⟨("_law_low", none), "_law_low", "_law_low", defArgs s_L_low, defBody s_L_low, defScope s_L_low, [], []⟩
def d_L_plus : He.DefD := ⟨("_law_plus", none), "_law_plus", "_law_plus", defArgs s_L_plus, defBody s_L_plus, defScope s_L_plus, [], []⟩
def d_L_times : He.DefD := ⟨("_law_times", none), "_law_times", "_law_times", defArgs s_L_times, defBody s_L_times, defScope s_L_times, [], []⟩
def d_L_start : He.DefD := ⟨("_law_start", none), "_law_start", "_law_start", defArgs s_L_start, defBody s_L_start, defScope s_L_start, [], []⟩
def d_L_pull : He.DefD := ⟨("_law_pull", none), "_law_pull", "_law_pull", defArgs s_L_pull, defBody s_L_pull, defScope s_L_pull, [], []⟩
def d_L_room : He.DefD := ⟨("_law_room", none), "_law_room", "_law_room", defArgs s_L_room, defBody s_L_room, defScope s_L_room, [], []⟩
def d_L_outcome : He.DefD := ⟨("_law_outcome", none), "_law_outcome", "_law_outcome", defArgs s_L_outcome, defBody s_L_outcome, defScope s_L_outcome, [], []⟩
def d_L_lottery : He.DefD := ⟨("_law_lottery", none), "_law_lottery", "_law_lottery", defArgs s_L_lottery, defBody s_L_lottery, defScope s_L_lottery, [], []⟩
def d_L_sizes : He.DefD := ⟨("_law_sizes", none), "_law_sizes", "_law_sizes", defArgs s_L_sizes, defBody s_L_sizes, defScope s_L_sizes, [], []⟩
def d_L_tree : He.DefD := ⟨("_law_tree", none), "_law_tree", "_law_tree", defArgs s_L_tree, defBody s_L_tree, defScope s_L_tree, [], []⟩
def d_L_book : He.DefD := ⟨("_law_book", none), "_law_book", "_law_book", defArgs s_L_book, defBody s_L_book, defScope s_L_book, [], []⟩
def d_L_rules : He.DefD := ⟨("_law_rules", none), "_law_rules", "_law_rules", defArgs s_L_rules, defBody s_L_rules, defScope s_L_rules, [], []⟩
def d_L_matrix : He.DefD := ⟨("_law_matrix", none), "_law_matrix", "_law_matrix", defArgs s_L_matrix, defBody s_L_matrix, defScope s_L_matrix, [], []⟩
def d_law : He.DefD := ⟨("law", none), "law", "law", defArgs s_law, defBody s_law, defScope s_law, [], []⟩
def fns0 : List He.DefD := [d_wall, d_InvalidFraction_init, d_InvalidBound_init, d_InvalidBook_init, d_lowest, d_plus, d_total, d_common_bottom, d_is_whole, d_is_fraction, d_checked, d_check_between, d_check_weights, d_has_form, d_are_chances, d_is_outcome, d_weight_of, d_check_lottery, d_check_rules, d_Book_init, d_Book_len, d_Book_eq, d_Book_getitem, d_Book_iter, d_Book_weights, d_Book_is_sure, d_Book_mean_outcome, d_Book_matrix, d_Book_with_lottery, d_Book_renamed]
def fns1 : List He.DefD := [d_whole_matrix, d_L_is_int, d_L_same, d_L_gcd, d_L_low, d_L_plus, d_L_times, d_L_start, d_L_pull, d_L_room, d_L_outcome, d_L_lottery, d_L_sizes, d_L_tree, d_L_book, d_L_rules, d_L_matrix, d_law]
def fns : List He.DefD := fns0 ++ fns1
def loose0 : List PySem.Str := ["_wall", "ShareError", "InvalidFraction", "InvalidBound", "InvalidBook", "ZERO", "ONE", "lowest", "plus", "total", "common_bottom", "is_whole", "is_fraction", "checked", "check_between", "MOST_KINDS", "MOST_GAPS", "MOST_ENTRIES", "MOST_PAGES", "MOST_BOTTOM", "check_weights", "has_form", "are_chances", "is_outcome", "weight_of", "check_lottery", "check_rules", "Book", "whole_matrix", "_law_is_int"]
def loose1 : List PySem.Str := ["_law_same", "_law_gcd", "_law_low", "_law_plus", "_law_times", "_law_start", "_law_pull", "_law_room", "_law_outcome", "_law_lottery", "_law_sizes", "_law_tree", "_law_book", "_law_rules", "_law_matrix"]
def loose : List PySem.Str := loose0 ++ loose1
def look (K : Fr) : Bool := gloB K "_law_start" && (gloB K "_law_pull" && (gloB K "_law_tree" && (gloB K "_law_room" && (gloB K "_law_sizes" && (gloB K "_law_outcome" && (gloB K "_law_lottery" && (gloB K "_law_book" && (gloB K "_law_gcd" && (gloB K "_law_matrix" && (gloB K "is_whole" && (gloB K "check_weights" && (gloB K "has_form" && (gloB K "is_fraction" && (gloB K "lowest" && (gloB K "checked" && (gloB K "common_bottom" && (gloB K "plus" && (gloB K "total" && (gloB K "are_chances" && (gloB K "is_outcome" && (gloB K "weight_of" && (gloB K "check_lottery" && (gloB K "check_rules" && (gloB K "_law_rules" && (gloB K "_law_low" && (gloB K "whole_matrix" && (gloB K "_law_is_int" && (gloB K "_law_same" && (gloB K "_law_plus" && (gloB K "_law_times" && (gloB K "law" && (clsB K "Book" ["lots", "sizes"] && (methB K "Book" "matrix" d_Book_matrix && (makeB K "Book" d_Book_init && (seerB K && (freeB K "list" && (freeB K "len" && (freeB K "int" && (freeB K "range" && (freeB K "isinstance" && (freeB K "bool" && (freeB K "enumerate" && (freeB K "tuple" && (freeB K "sum" && (freeB K "zip" && (freeB K "sorted" && (freeB K "abs" && (freeB K "str" && (He.eqO (PySem.W.nsIn K mainGlobals "gcd") (some (some (.builtin "math.gcd"))) && (excB K "InvalidBook" ["part", "at"] d_InvalidBook_init && (excB K "InvalidFraction" ["name"] d_InvalidFraction_init && (intB K "MOST_KINDS" 6 && (intB K "MOST_GAPS" 12 && (intB K "MOST_ENTRIES" 4 && (tupB K "ZERO" [0, 1] && (intB K "MOST_BOTTOM" 100 && (tupB K "ONE" [1, 1] && (intB K "MOST_PAGES" 20))))))))))))))))))))))))))))))))))))))))))))))))))))))))))
abbrev RW : PySem.W.OpenRow := PySem.W.OpenLaw.row PySem.Challenge.rw_pageshares_k06_matrix_of_a_book
abbrev hk : PySem.W.Hook := hookP 5 fns look
def obs1 (s : PySem.W.SharedT) : He.AlD := obsP 5 fns look (HandSHeadRun.getT s)
theorem obs1_eq (s : PySem.W.SharedT) : obs1 s = hk.obs s.abs := obsP_eq (HandSHeadRun.getT_eq s)
theorem run (w : World) : HandSHeadRun.RunEqI RW (PySem.W.view RW.prog [0, 53]) hk obs1 100000 loose w := by
  unfold HandSHeadRun.RunEqI
  kernel_rfl
section
variable {w : World} {mg mb : Str → Option Value} {fa : Addr} {h base : Heap} {K : Fr}
structure Gd (w : World) (mg mb : Str → Option Value) (h base : Heap) (K : Fr) : Prop where
  X : K.In h
  c : SaysP fns look K
  G : h.Ns mainGlobals mg
  B : h.Ns builtinsNs mb
  bi : ∀ x : Str, x ≠ "__name__" → mb x = bootBuiltins x
  Y : K.In base
  Gb : base.Ns mainGlobals mg
abbrev gv (w : World) (mg : Str → Option Value) (base : Heap) (K : Fr) : Gv := ⟨RW.prog, w, K, mg, base⟩
theorem bits (g : Gd w mg mb h base K) : (gloB K "_law_start") = true ∧ (gloB K "_law_pull") = true ∧ (gloB K "_law_tree") = true ∧ (gloB K "_law_room") = true ∧ (gloB K "_law_sizes") = true ∧ (gloB K "_law_outcome") = true ∧ (gloB K "_law_lottery") = true ∧ (gloB K "_law_book") = true ∧ (gloB K "_law_gcd") = true ∧ (gloB K "_law_matrix") = true ∧ (gloB K "is_whole") = true ∧ (gloB K "check_weights") = true ∧ (gloB K "has_form") = true ∧ (gloB K "is_fraction") = true ∧ (gloB K "lowest") = true ∧ (gloB K "checked") = true ∧ (gloB K "common_bottom") = true ∧ (gloB K "plus") = true ∧ (gloB K "total") = true ∧ (gloB K "are_chances") = true ∧ (gloB K "is_outcome") = true ∧ (gloB K "weight_of") = true ∧ (gloB K "check_lottery") = true ∧ (gloB K "check_rules") = true ∧ (gloB K "_law_rules") = true ∧ (gloB K "_law_low") = true ∧ (gloB K "whole_matrix") = true ∧ (gloB K "_law_is_int") = true ∧ (gloB K "_law_same") = true ∧ (gloB K "_law_plus") = true ∧ (gloB K "_law_times") = true ∧ (gloB K "law") = true ∧ (clsB K "Book" ["lots", "sizes"]) = true ∧ (methB K "Book" "matrix" d_Book_matrix) = true ∧ (makeB K "Book" d_Book_init) = true ∧ (seerB K) = true ∧ (freeB K "list") = true ∧ (freeB K "len") = true ∧ (freeB K "int") = true ∧ (freeB K "range") = true ∧ (freeB K "isinstance") = true ∧ (freeB K "bool") = true ∧ (freeB K "enumerate") = true ∧ (freeB K "tuple") = true ∧ (freeB K "sum") = true ∧ (freeB K "zip") = true ∧ (freeB K "sorted") = true ∧ (freeB K "abs") = true ∧ (freeB K "str") = true ∧ (He.eqO (PySem.W.nsIn K mainGlobals "gcd") (some (some (.builtin "math.gcd")))) = true ∧ (excB K "InvalidBook" ["part", "at"] d_InvalidBook_init) = true ∧ (excB K "InvalidFraction" ["name"] d_InvalidFraction_init) = true ∧ (intB K "MOST_KINDS" 6) = true ∧ (intB K "MOST_GAPS" 12) = true ∧ (intB K "MOST_ENTRIES" 4) = true ∧ (tupB K "ZERO" [0, 1]) = true ∧ (intB K "MOST_BOTTOM" 100) = true ∧ (tupB K "ONE" [1, 1]) = true ∧ (intB K "MOST_PAGES" 20) = true := by
  have e := g.c.p
  unfold look at e
  simpa only [Bool.and_eq_true] using e
theorem seer (g : Gd w mg mb h base K) : base.NoSeer := seer_of g.X g.Y g.B g.bi g.Gb (bits g).2.2.2.2.2.2.2.2.2.2.2.2.2.2.2.2.2.2.2.2.2.2.2.2.2.2.2.2.2.2.2.2.2.2.2.1
theorem tree : RW.prog.given.tree = none := by rfl
theorem fr_list (g : Gd w mg mb h base K) : mg "list" = none := PySem.W.mg_none_of g.X g.G (He.eqO_ok (bits g).2.2.2.2.2.2.2.2.2.2.2.2.2.2.2.2.2.2.2.2.2.2.2.2.2.2.2.2.2.2.2.2.2.2.2.2.1)
theorem fr_len (g : Gd w mg mb h base K) : mg "len" = none := PySem.W.mg_none_of g.X g.G (He.eqO_ok (bits g).2.2.2.2.2.2.2.2.2.2.2.2.2.2.2.2.2.2.2.2.2.2.2.2.2.2.2.2.2.2.2.2.2.2.2.2.2.1)
theorem fr_int (g : Gd w mg mb h base K) : mg "int" = none := PySem.W.mg_none_of g.X g.G (He.eqO_ok (bits g).2.2.2.2.2.2.2.2.2.2.2.2.2.2.2.2.2.2.2.2.2.2.2.2.2.2.2.2.2.2.2.2.2.2.2.2.2.2.1)
theorem fr_range (g : Gd w mg mb h base K) : mg "range" = none := PySem.W.mg_none_of g.X g.G (He.eqO_ok (bits g).2.2.2.2.2.2.2.2.2.2.2.2.2.2.2.2.2.2.2.2.2.2.2.2.2.2.2.2.2.2.2.2.2.2.2.2.2.2.2.1)
theorem fr_isinstance (g : Gd w mg mb h base K) : mg "isinstance" = none := PySem.W.mg_none_of g.X g.G (He.eqO_ok (bits g).2.2.2.2.2.2.2.2.2.2.2.2.2.2.2.2.2.2.2.2.2.2.2.2.2.2.2.2.2.2.2.2.2.2.2.2.2.2.2.2.1)
theorem fr_bool (g : Gd w mg mb h base K) : mg "bool" = none := PySem.W.mg_none_of g.X g.G (He.eqO_ok (bits g).2.2.2.2.2.2.2.2.2.2.2.2.2.2.2.2.2.2.2.2.2.2.2.2.2.2.2.2.2.2.2.2.2.2.2.2.2.2.2.2.2.1)
theorem fr_enumerate (g : Gd w mg mb h base K) : mg "enumerate" = none := PySem.W.mg_none_of g.X g.G (He.eqO_ok (bits g).2.2.2.2.2.2.2.2.2.2.2.2.2.2.2.2.2.2.2.2.2.2.2.2.2.2.2.2.2.2.2.2.2.2.2.2.2.2.2.2.2.2.1)
theorem fr_tuple (g : Gd w mg mb h base K) : mg "tuple" = none := PySem.W.mg_none_of g.X g.G (He.eqO_ok (bits g).2.2.2.2.2.2.2.2.2.2.2.2.2.2.2.2.2.2.2.2.2.2.2.2.2.2.2.2.2.2.2.2.2.2.2.2.2.2.2.2.2.2.2.1)
theorem fr_sum (g : Gd w mg mb h base K) : mg "sum" = none := PySem.W.mg_none_of g.X g.G (He.eqO_ok (bits g).2.2.2.2.2.2.2.2.2.2.2.2.2.2.2.2.2.2.2.2.2.2.2.2.2.2.2.2.2.2.2.2.2.2.2.2.2.2.2.2.2.2.2.2.1)
theorem fr_zip (g : Gd w mg mb h base K) : mg "zip" = none := PySem.W.mg_none_of g.X g.G (He.eqO_ok (bits g).2.2.2.2.2.2.2.2.2.2.2.2.2.2.2.2.2.2.2.2.2.2.2.2.2.2.2.2.2.2.2.2.2.2.2.2.2.2.2.2.2.2.2.2.2.1)
theorem fr_sorted (g : Gd w mg mb h base K) : mg "sorted" = none := PySem.W.mg_none_of g.X g.G (He.eqO_ok (bits g).2.2.2.2.2.2.2.2.2.2.2.2.2.2.2.2.2.2.2.2.2.2.2.2.2.2.2.2.2.2.2.2.2.2.2.2.2.2.2.2.2.2.2.2.2.2.1)
theorem fr_abs (g : Gd w mg mb h base K) : mg "abs" = none := PySem.W.mg_none_of g.X g.G (He.eqO_ok (bits g).2.2.2.2.2.2.2.2.2.2.2.2.2.2.2.2.2.2.2.2.2.2.2.2.2.2.2.2.2.2.2.2.2.2.2.2.2.2.2.2.2.2.2.2.2.2.2.1)
theorem fr_str (g : Gd w mg mb h base K) : mg "str" = none := PySem.W.mg_none_of g.X g.G (He.eqO_ok (bits g).2.2.2.2.2.2.2.2.2.2.2.2.2.2.2.2.2.2.2.2.2.2.2.2.2.2.2.2.2.2.2.2.2.2.2.2.2.2.2.2.2.2.2.2.2.2.2.2.1)
theorem has_gcd (g : Gd w mg mb h base K) : mg "gcd" = some (.builtin "math.gcd") := PySem.W.mg_of g.X g.G (He.eqO_ok (bits g).2.2.2.2.2.2.2.2.2.2.2.2.2.2.2.2.2.2.2.2.2.2.2.2.2.2.2.2.2.2.2.2.2.2.2.2.2.2.2.2.2.2.2.2.2.2.2.2.2.1)
theorem c_MOST_KINDS (g : Gd w mg mb h base K) : GlHas (gv w mg base K) "MOST_KINDS" (.int 6) := glHas_int g.X g.G (bits g).2.2.2.2.2.2.2.2.2.2.2.2.2.2.2.2.2.2.2.2.2.2.2.2.2.2.2.2.2.2.2.2.2.2.2.2.2.2.2.2.2.2.2.2.2.2.2.2.2.2.2.2.1
theorem c_MOST_GAPS (g : Gd w mg mb h base K) : GlHas (gv w mg base K) "MOST_GAPS" (.int 12) := glHas_int g.X g.G (bits g).2.2.2.2.2.2.2.2.2.2.2.2.2.2.2.2.2.2.2.2.2.2.2.2.2.2.2.2.2.2.2.2.2.2.2.2.2.2.2.2.2.2.2.2.2.2.2.2.2.2.2.2.2.1
theorem c_MOST_ENTRIES (g : Gd w mg mb h base K) : GlHas (gv w mg base K) "MOST_ENTRIES" (.int 4) := glHas_int g.X g.G (bits g).2.2.2.2.2.2.2.2.2.2.2.2.2.2.2.2.2.2.2.2.2.2.2.2.2.2.2.2.2.2.2.2.2.2.2.2.2.2.2.2.2.2.2.2.2.2.2.2.2.2.2.2.2.2.1
theorem c_ZERO (g : Gd w mg mb h base K) : GlHas (gv w mg base K) "ZERO" (.tup [.int 0, .int 1]) := glHas_tup (is := [0, 1]) g.X g.G (bits g).2.2.2.2.2.2.2.2.2.2.2.2.2.2.2.2.2.2.2.2.2.2.2.2.2.2.2.2.2.2.2.2.2.2.2.2.2.2.2.2.2.2.2.2.2.2.2.2.2.2.2.2.2.2.2.1
theorem c_MOST_BOTTOM (g : Gd w mg mb h base K) : GlHas (gv w mg base K) "MOST_BOTTOM" (.int 100) := glHas_int g.X g.G (bits g).2.2.2.2.2.2.2.2.2.2.2.2.2.2.2.2.2.2.2.2.2.2.2.2.2.2.2.2.2.2.2.2.2.2.2.2.2.2.2.2.2.2.2.2.2.2.2.2.2.2.2.2.2.2.2.2.1
theorem c_ONE (g : Gd w mg mb h base K) : GlHas (gv w mg base K) "ONE" (.tup [.int 1, .int 1]) := glHas_tup (is := [1, 1]) g.X g.G (bits g).2.2.2.2.2.2.2.2.2.2.2.2.2.2.2.2.2.2.2.2.2.2.2.2.2.2.2.2.2.2.2.2.2.2.2.2.2.2.2.2.2.2.2.2.2.2.2.2.2.2.2.2.2.2.2.2.2.1
theorem c_MOST_PAGES (g : Gd w mg mb h base K) : GlHas (gv w mg base K) "MOST_PAGES" (.int 20) := glHas_int g.X g.G (bits g).2.2.2.2.2.2.2.2.2.2.2.2.2.2.2.2.2.2.2.2.2.2.2.2.2.2.2.2.2.2.2.2.2.2.2.2.2.2.2.2.2.2.2.2.2.2.2.2.2.2.2.2.2.2.2.2.2.2
theorem x_InvalidBook (g : Gd w mg mb h base K) : ExcHas (gv w mg base K) "InvalidBook" ["part", "at"] := by
  obtain ⟨fd, F⟩ := g.c.def_ 3 (d := d_InvalidBook_init) rfl
  have F' : FunD K d_InvalidBook_init.name d_InvalidBook_init.qual d_InvalidBook_init.params d_InvalidBook_init.body d_InvalidBook_init.scope [] [] (He.fAd K d_InvalidBook_init.at_) fd := F
  exact ⟨_, _, exc_of g.X g.G (bits g).2.2.2.2.2.2.2.2.2.2.2.2.2.2.2.2.2.2.2.2.2.2.2.2.2.2.2.2.2.2.2.2.2.2.2.2.2.2.2.2.2.2.2.2.2.2.2.2.2.2.1 F' (by decide +kernel) (F'.bindsN (fun kV doc pm an cdv ct us hl => by
    match us, hl with
    | [u0, u1, u2], _ => rfl)) (by decide +kernel) (by decide +kernel) (by decide +kernel) (by decide +kernel) (by decide +kernel) (by decide) (by decide), by decide +kernel⟩
theorem x_InvalidFraction (g : Gd w mg mb h base K) : ExcHas (gv w mg base K) "InvalidFraction" ["name"] := by
  obtain ⟨fd, F⟩ := g.c.def_ 1 (d := d_InvalidFraction_init) rfl
  have F' : FunD K d_InvalidFraction_init.name d_InvalidFraction_init.qual d_InvalidFraction_init.params d_InvalidFraction_init.body d_InvalidFraction_init.scope [] [] (He.fAd K d_InvalidFraction_init.at_) fd := F
  exact ⟨_, _, exc_of g.X g.G (bits g).2.2.2.2.2.2.2.2.2.2.2.2.2.2.2.2.2.2.2.2.2.2.2.2.2.2.2.2.2.2.2.2.2.2.2.2.2.2.2.2.2.2.2.2.2.2.2.2.2.2.2.1 F' (by decide +kernel) (F'.bindsN (fun kV doc pm an cdv ct us hl => by
    match us, hl with
    | [u0, u1], _ => rfl)) (by decide +kernel) (by decide +kernel) (by decide +kernel) (by decide +kernel) (by decide +kernel) (by decide) (by decide), by decide +kernel⟩
theorem cl_Book (g : Gd w mg mb h base K) {f : Str} (hf : f ∈ (["lots", "sizes"] : List Str)) : ClsHas (gv w mg base K) "Book" [f] := clsHas_of g.X g.G (bits g).2.2.2.2.2.2.2.2.2.2.2.2.2.2.2.2.2.2.2.2.2.2.2.2.2.2.2.2.2.2.2.2.1 hf
theorem hF_L_start (g : Gd w mg mb h base K) : ∀ km, 40 < km → FnHas (gv w mg base K) km "_law_start" F_L_start := by
  obtain ⟨fd, F⟩ := g.c.def_ 37 (d := d_L_start) rfl
  have F' : FunD K d_L_start.name d_L_start.qual d_L_start.params d_L_start.body d_L_start.scope [] [] (He.fAd K d_L_start.at_) fd := F
  intro km hk
  refine fnHas_of (k := 40) (N := ["_law_script"]) (ps := ["_law_script"]) (b := b_L_start) F' g.X g.G "_law_start" rfl (bits g).1 (F'.bindsN (fun kV doc pm an cdv ct us hl => by
    match us, hl with
    | [u0], _ => rfl)) (C8.fnScope_by (by decide +kernel)) rfl (by decide) hk (seer g) tree (by decide +kernel) ?_ (fun ds o e => ⟨0, e⟩)
  · simp only [b_L_start, OkSs, OkS, OkE, OkL, OkI, PfHas, fnN, eAliG]
    repeat' apply And.intro
    all_goals first | trivial | exact (fr_list g)
theorem hF_L_pull (g : Gd w mg mb h base K) : ∀ km, 42 < km → FnHas (gv w mg base K) km "_law_pull" F_L_pull := by
  obtain ⟨fd, F⟩ := g.c.def_ 38 (d := d_L_pull) rfl
  have F' : FunD K d_L_pull.name d_L_pull.qual d_L_pull.params d_L_pull.body d_L_pull.scope [] [] (He.fAd K d_L_pull.at_) fd := F
  intro km hk
  refine fnHas_of (k := 42) (N := ["_law_state", "_law_many", "_law_cell", "_law_number"]) (ps := ["_law_state", "_law_many"]) (b := b_L_pull) F' g.X g.G "_law_pull" rfl (bits g).2.1 (F'.bindsN (fun kV doc pm an cdv ct us hl => by
    match us, hl with
    | [u0, u1], _ => rfl)) (C8.fnScope_by (by decide +kernel)) rfl (by decide) hk (seer g) tree (by decide +kernel) ?_ hm_L_pull
  · simp only [b_L_pull, OkSs, OkS, OkE, OkL, OkI, PfHas, fnN, eAliG]
    repeat' apply And.intro
    all_goals first | trivial | exact (fr_len g) | exact (fr_int g)
theorem hF_L_tree (g : Gd w mg mb h base K) : ∀ km, 44 < km → FnHas (gv w mg base K) km "_law_tree" F_L_tree := by
  obtain ⟨fd, F⟩ := g.c.def_ 43 (d := d_L_tree) rfl
  have F' : FunD K d_L_tree.name d_L_tree.qual d_L_tree.params d_L_tree.body d_L_tree.scope [] [] (He.fAd K d_L_tree.at_) fd := F
  intro km hk
  refine fnHas_of (k := 44) (N := ["_law_least", "_law_sizes_here", "_law_lots", "_law_k", "_law_outcome_here", "_law_j"]) (ps := ["_law_least"]) (b := b_L_tree) F' g.X g.G "_law_tree" rfl (bits g).2.2.1 (F'.bindsN (fun kV doc pm an cdv ct us hl => by
    match us, hl with
    | [u0], _ => rfl)) (C8.fnScope_by (by decide +kernel)) rfl (by decide) hk (seer g) tree (by decide +kernel) ?_ (fun ds o e => ⟨0, e⟩)
  · simp only [b_L_tree, OkSs, OkS, OkE, OkL, OkI, PfHas, fnN, eAliG]
    repeat' apply And.intro
    all_goals first | trivial | exact (fr_range g) | exact (fr_int g)
theorem hF_L_room (g : Gd w mg mb h base K) : ∀ km, 46 < km → FnHas (gv w mg base K) km "_law_room" F_L_room := by
  obtain ⟨fd, F⟩ := g.c.def_ 39 (d := d_L_room) rfl
  have F' : FunD K d_L_room.name d_L_room.qual d_L_room.params d_L_room.body d_L_room.scope [] [] (He.fAd K d_L_room.at_) fd := F
  intro km hk
  refine fnHas_of (k := 46) (N := ["_law_sizes_here", "_law_goal", "_law_can", "_law_j", "_law_size", "_law_line", "_law_total"]) (ps := ["_law_sizes_here", "_law_goal"]) (b := b_L_room) F' g.X g.G "_law_room" rfl (bits g).2.2.2.1 (F'.bindsN (fun kV doc pm an cdv ct us hl => by
    match us, hl with
    | [u0, u1], _ => rfl)) (C8.fnScope_by (by decide +kernel)) rfl (by decide) hk (seer g) tree (by decide +kernel) ?_ (fun ds o e => ⟨0, e⟩)
  · simp only [b_L_room, OkSs, OkS, OkE, OkL, OkI, PfHas, fnN, eAliG]
    repeat' apply And.intro
    all_goals first | trivial | exact (fr_range g) | exact (fr_len g)
theorem hF_L_sizes (g : Gd w mg mb h base K) : ∀ km, 48 < km → FnHas (gv w mg base K) km "_law_sizes" F_L_sizes := by
  obtain ⟨fd, F⟩ := g.c.def_ 42 (d := d_L_sizes) rfl
  have F' : FunD K d_L_sizes.name d_L_sizes.qual d_L_sizes.params d_L_sizes.body d_L_sizes.scope [] [] (He.fAd K d_L_sizes.at_) fd := F
  intro km hk
  refine fnHas_of (k := 48) (N := ["_law_state", "_law_many", "_law_sizes_here", "_law_size", "_law_k"]) (ps := ["_law_state", "_law_many"]) (b := b_L_sizes) F' g.X g.G "_law_sizes" rfl (bits g).2.2.2.2.1 (F'.bindsN (fun kV doc pm an cdv ct us hl => by
    match us, hl with
    | [u0, u1], _ => rfl)) (C8.fnScope_by (by decide +kernel)) rfl (by decide) hk (seer g) tree (by decide +kernel) ?_ (fun ds o e => ⟨0, e⟩)
  · simp only [b_L_sizes, OkSs, OkS, OkE, OkL, OkI, PfHas, fnN, eAliG]
    repeat' apply And.intro
    all_goals first | trivial | exact (hF_L_pull g _ (by decide)) | exact (hF_L_room g _ (by decide)) | exact (fr_range g) | exact (fr_list g)
theorem hF_L_outcome (g : Gd w mg mb h base K) : ∀ km, 50 < km → FnHas (gv w mg base K) km "_law_outcome" F_L_outcome := by
  obtain ⟨fd, F⟩ := g.c.def_ 40 (d := d_L_outcome) rfl
  have F' : FunD K d_L_outcome.name d_L_outcome.qual d_L_outcome.params d_L_outcome.body d_L_outcome.scope [] [] (He.fAd K d_L_outcome.at_) fd := F
  intro km hk
  refine fnHas_of (k := 50) (N := ["_law_state", "_law_sizes_here", "_law_goal", "_law_can", "_law_outcome_here", "_law_j", "_law_free", "_law_many"]) (ps := ["_law_state", "_law_sizes_here", "_law_goal"]) (b := b_L_outcome) F' g.X g.G "_law_outcome" rfl (bits g).2.2.2.2.2.1 (F'.bindsN (fun kV doc pm an cdv ct us hl => by
    match us, hl with
    | [u0, u1, u2], _ => rfl)) (C8.fnScope_by (by decide +kernel)) rfl (by decide) hk (seer g) tree (by decide +kernel) ?_ (fun ds o e => ⟨0, e⟩)
  · simp only [b_L_outcome, OkSs, OkS, OkE, OkL, OkI, PfHas, fnN, eAliG]
    repeat' apply And.intro
    all_goals first | trivial | exact (hF_L_room g _ (by decide)) | exact (hF_L_pull g _ (by decide)) | exact (fr_range g) | exact (fr_len g)
theorem hF_L_lottery (g : Gd w mg mb h base K) : ∀ km, 52 < km → FnHas (gv w mg base K) km "_law_lottery" F_L_lottery := by
  obtain ⟨fd, F⟩ := g.c.def_ 41 (d := d_L_lottery) rfl
  have F' : FunD K d_L_lottery.name d_L_lottery.qual d_L_lottery.params d_L_lottery.body d_L_lottery.scope [] [] (He.fAd K d_L_lottery.at_) fd := F
  intro km hk
  refine fnHas_of (k := 52) (N := ["_law_state", "_law_sizes_here", "_law_goal", "_law_most", "_law_many", "_law_bottom", "_law_left", "_law_lot", "_law_k", "_law_piece", "_law_outcome_here", "_law_old", "_law_entry"]) (ps := ["_law_state", "_law_sizes_here", "_law_goal", "_law_most"]) (b := b_L_lottery) F' g.X g.G "_law_lottery" rfl (bits g).2.2.2.2.2.2.1 (F'.bindsN (fun kV doc pm an cdv ct us hl => by
    match us, hl with
    | [u0, u1, u2, u3], _ => rfl)) (C8.fnScope_by (by decide +kernel)) rfl (by decide) hk (seer g) tree (by decide +kernel) ?_ (fun ds o e => ⟨0, e⟩)
  · simp only [b_L_lottery, OkSs, OkS, OkE, OkL, OkI, PfHas, fnN, eAliG]
    repeat' apply And.intro
    all_goals first | trivial | exact (hF_L_pull g _ (by decide)) | exact (hF_L_outcome g _ (by decide)) | exact (fr_range g) | exact (fr_len g)
theorem hF_L_book (g : Gd w mg mb h base K) : ∀ km, 54 < km → FnHas (gv w mg base K) km "_law_book" F_L_book := by
  obtain ⟨fd, F⟩ := g.c.def_ 44 (d := d_L_book) rfl
  have F' : FunD K d_L_book.name d_L_book.qual d_L_book.params d_L_book.body d_L_book.scope [] [] (He.fAd K d_L_book.at_) fd := F
  intro km hk
  refine fnHas_of (k := 54) (N := ["_law_state", "_law_turn", "_law_sizes_here", "_law_most", "_law_size"]) (ps := ["_law_state"]) (b := b_L_book) F' g.X g.G "_law_book" rfl (bits g).2.2.2.2.2.2.2.1 (F'.bindsN (fun kV doc pm an cdv ct us hl => by
    match us, hl with
    | [u0], _ => rfl)) (C8.fnScope_by (by decide +kernel)) rfl (by decide) hk (seer g) tree (by decide +kernel) ?_ (fun ds o e => ⟨0, e⟩)
  · simp only [b_L_book, OkSs, OkS, OkE, OkL, OkI, PfHas, fnN, eAliG]
    repeat' apply And.intro
    all_goals first | trivial | exact (hF_L_pull g _ (by decide)) | exact (hF_L_tree g _ (by decide)) | exact (hF_L_sizes g _ (by decide)) | exact (hF_L_lottery g _ (by decide))
theorem hF_L_gcd (g : Gd w mg mb h base K) : ∀ km, 56 < km → FnHas (gv w mg base K) km "_law_gcd" F_L_gcd := by
  obtain ⟨fd, F⟩ := g.c.def_ 33 (d := d_L_gcd) rfl
  have F' : FunD K d_L_gcd.name d_L_gcd.qual d_L_gcd.params d_L_gcd.body d_L_gcd.scope [] [] (He.fAd K d_L_gcd.at_) fd := F
  intro km hk
  refine fnHas_of (k := 56) (N := ["_law_one", "_law_other", "_law_left"]) (ps := ["_law_one", "_law_other"]) (b := b_L_gcd) F' g.X g.G "_law_gcd" rfl (bits g).2.2.2.2.2.2.2.2.1 (F'.bindsN (fun kV doc pm an cdv ct us hl => by
    match us, hl with
    | [u0, u1], _ => rfl)) (C8.fnScope_by (by decide +kernel)) rfl (by decide) hk (seer g) tree (by decide +kernel) ?_ hm_L_gcd
  · simp only [b_L_gcd, OkSs, OkS, OkE, OkL, OkI, PfHas, fnN, eAliG]
    repeat' apply And.intro
    all_goals first | trivial | exact (fr_int g)
theorem hF_L_matrix (g : Gd w mg mb h base K) : ∀ km, 58 < km → FnHas (gv w mg base K) km "_law_matrix" F_L_matrix := by
  obtain ⟨fd, F⟩ := g.c.def_ 46 (d := d_L_matrix) rfl
  have F' : FunD K d_L_matrix.name d_L_matrix.qual d_L_matrix.params d_L_matrix.body d_L_matrix.scope [] [] (He.fAd K d_L_matrix.at_) fd := F
  intro km hk
  refine fnHas_of (k := 58) (N := ["_law_sizes_here", "_law_lots", "_law_bottom", "_law_lot", "_law_many", "_law_rows", "_law_i", "_law_entry", "_law_j"]) (ps := ["_law_sizes_here", "_law_lots"]) (b := b_L_matrix) F' g.X g.G "_law_matrix" rfl (bits g).2.2.2.2.2.2.2.2.2.1 (F'.bindsN (fun kV doc pm an cdv ct us hl => by
    match us, hl with
    | [u0, u1], _ => rfl)) (C8.fnScope_by (by decide +kernel)) rfl (by decide) hk (seer g) tree (by decide +kernel) ?_ (fun ds o e => ⟨0, e⟩)
  · simp only [b_L_matrix_10, b_L_matrix_9, b_L_matrix_8, b_L_matrix_7, b_L_matrix_6, b_L_matrix_5, b_L_matrix_4, b_L_matrix_3, b_L_matrix_2, b_L_matrix_1, b_L_matrix, OkSs, OkS, OkE, OkL, OkI, PfHas, fnN, eAliG]
    repeat' apply And.intro
    all_goals first | trivial | exact (hF_L_gcd g _ (by decide)) | exact (fr_len g) | exact (fr_range g)
theorem hF_is_whole (g : Gd w mg mb h base K) : ∀ km, 60 < km → FnHas (gv w mg base K) km "is_whole" F_is_whole := by
  obtain ⟨fd, F⟩ := g.c.def_ 8 (d := d_is_whole) rfl
  have F' : FunD K d_is_whole.name d_is_whole.qual d_is_whole.params d_is_whole.body d_is_whole.scope [] [] (He.fAd K d_is_whole.at_) fd := F
  intro km hk
  refine fnHas_of (k := 60) (N := ["value"]) (ps := ["value"]) (b := b_is_whole) F' g.X g.G "is_whole" rfl (bits g).2.2.2.2.2.2.2.2.2.2.1 (F'.bindsN (fun kV doc pm an cdv ct us hl => by
    match us, hl with
    | [u0], _ => rfl)) (C8.fnScope_by (by decide +kernel)) rfl (by decide) hk (seer g) tree (by decide +kernel) ?_ hm_is_whole
  · simp only [b_is_whole, OkSs, OkS, OkE, OkL, OkI, PfHas, fnN, eAliG]
    repeat' apply And.intro
    all_goals first | trivial | exact (fr_isinstance g) | exact (fr_int g) | exact (fr_bool g)
theorem hF_check_weights (g : Gd w mg mb h base K) : ∀ km, 62 < km → FnHas (gv w mg base K) km "check_weights" F_check_weights := by
  obtain ⟨fd, F⟩ := g.c.def_ 12 (d := d_check_weights) rfl
  have F' : FunD K d_check_weights.name d_check_weights.qual d_check_weights.params d_check_weights.body d_check_weights.scope [] [] (He.fAd K d_check_weights.at_) fd := F
  intro km hk
  refine fnHas_of (k := 62) (N := ["value", "at", "size"]) (ps := ["value"]) (b := b_check_weights) F' g.X g.G "check_weights" rfl (bits g).2.2.2.2.2.2.2.2.2.2.2.1 (F'.bindsN (fun kV doc pm an cdv ct us hl => by
    match us, hl with
    | [u0], _ => rfl)) (C8.fnScope_by (by decide +kernel)) rfl (by decide) hk (seer g) tree (by decide +kernel) ?_ (fun ds o e => ⟨0, e⟩)
  · simp only [b_check_weights, OkSs, OkS, OkE, OkL, OkI, PfHas, fnN, eAliG]
    repeat' apply And.intro
    all_goals first | trivial | exact (hF_is_whole g _ (by decide)) | exact (fr_isinstance g) | exact (fr_list g) | exact (fr_len g) | exact (fr_enumerate g) | exact (c_MOST_KINDS g) | exact (c_MOST_GAPS g) | exact (x_InvalidBook g)
theorem hF_has_form (g : Gd w mg mb h base K) : ∀ km, 64 < km → FnHas (gv w mg base K) km "has_form" F_has_form := by
  obtain ⟨fd, F⟩ := g.c.def_ 13 (d := d_has_form) rfl
  have F' : FunD K d_has_form.name d_has_form.qual d_has_form.params d_has_form.body d_has_form.scope [] [] (He.fAd K d_has_form.at_) fd := F
  intro km hk
  refine fnHas_of (k := 64) (N := ["value", "entry"]) (ps := ["value"]) (b := b_has_form) F' g.X g.G "has_form" rfl (bits g).2.2.2.2.2.2.2.2.2.2.2.2.1 (F'.bindsN (fun kV doc pm an cdv ct us hl => by
    match us, hl with
    | [u0], _ => rfl)) (C8.fnScope_by (by decide +kernel)) rfl (by decide) hk (seer g) tree (by decide +kernel) ?_ (fun ds o e => ⟨0, e⟩)
  · simp only [b_has_form, OkSs, OkS, OkE, OkL, OkI, PfHas, fnN, eAliG]
    repeat' apply And.intro
    all_goals first | trivial | exact (fr_isinstance g) | exact (fr_list g) | exact (fr_len g) | exact (fr_tuple g) | exact (c_MOST_ENTRIES g)
theorem hF_is_fraction (g : Gd w mg mb h base K) : ∀ km, 66 < km → FnHas (gv w mg base K) km "is_fraction" F_is_fraction := by
  obtain ⟨fd, F⟩ := g.c.def_ 9 (d := d_is_fraction) rfl
  have F' : FunD K d_is_fraction.name d_is_fraction.qual d_is_fraction.params d_is_fraction.body d_is_fraction.scope [] [] (He.fAd K d_is_fraction.at_) fd := F
  intro km hk
  refine fnHas_of (k := 66) (N := ["value"]) (ps := ["value"]) (b := b_is_fraction) F' g.X g.G "is_fraction" rfl (bits g).2.2.2.2.2.2.2.2.2.2.2.2.2.1 (F'.bindsN (fun kV doc pm an cdv ct us hl => by
    match us, hl with
    | [u0], _ => rfl)) (C8.fnScope_by (by decide +kernel)) rfl (by decide) hk (seer g) tree (by decide +kernel) ?_ hm_is_fraction
  · simp only [b_is_fraction, OkSs, OkS, OkE, OkL, OkI, PfHas, fnN, eAliG]
    repeat' apply And.intro
    all_goals first | trivial | exact (hF_is_whole g _ (by decide)) | exact (fr_isinstance g) | exact (fr_tuple g) | exact (fr_len g)
theorem hF_lowest (g : Gd w mg mb h base K) : ∀ km, 68 < km → FnHas (gv w mg base K) km "lowest" F_lowest := by
  obtain ⟨fd, F⟩ := g.c.def_ 4 (d := d_lowest) rfl
  have F' : FunD K d_lowest.name d_lowest.qual d_lowest.params d_lowest.body d_lowest.scope [] [] (He.fAd K d_lowest.at_) fd := F
  intro km hk
  refine fnHas_of (k := 68) (N := ["top", "bottom", "common"]) (ps := ["top", "bottom"]) (b := b_lowest) F' g.X g.G "lowest" rfl (bits g).2.2.2.2.2.2.2.2.2.2.2.2.2.2.1 (F'.bindsN (fun kV doc pm an cdv ct us hl => by
    match us, hl with
    | [u0, u1], _ => rfl)) (C8.fnScope_by (by decide +kernel)) rfl (by decide) hk (seer g) tree (by decide +kernel) ?_ hm_lowest
  · simp only [b_lowest, OkSs, OkS, OkE, OkL, OkI, PfHas, fnN, eAliG]
    repeat' apply And.intro
    all_goals first | trivial | exact (has_gcd g)
theorem hF_checked (g : Gd w mg mb h base K) : ∀ km, 70 < km → FnHas (gv w mg base K) km "checked" F_checked := by
  obtain ⟨fd, F⟩ := g.c.def_ 10 (d := d_checked) rfl
  have F' : FunD K d_checked.name d_checked.qual d_checked.params d_checked.body d_checked.scope [] [] (He.fAd K d_checked.at_) fd := F
  intro km hk
  refine fnHas_of (k := 70) (N := ["value", "name"]) (ps := ["value", "name"]) (b := b_checked) F' g.X g.G "checked" rfl (bits g).2.2.2.2.2.2.2.2.2.2.2.2.2.2.2.1 (F'.bindsN (fun kV doc pm an cdv ct us hl => by
    match us, hl with
    | [u0, u1], _ => rfl)) (C8.fnScope_by (by decide +kernel)) rfl (by decide) hk (seer g) tree (by decide +kernel) ?_ hm_checked
  · simp only [b_checked, OkSs, OkS, OkE, OkL, OkI, PfHas, fnN, eAliG]
    repeat' apply And.intro
    all_goals first | trivial | exact (hF_is_fraction g _ (by decide)) | exact (hF_lowest g _ (by decide)) | exact (fr_isinstance g) | exact (fr_int g) | exact (x_InvalidFraction g)
theorem hF_common_bottom (g : Gd w mg mb h base K) : ∀ km, 72 < km → FnHas (gv w mg base K) km "common_bottom" F_common_bottom := by
  obtain ⟨fd, F⟩ := g.c.def_ 7 (d := d_common_bottom) rfl
  have F' : FunD K d_common_bottom.name d_common_bottom.qual d_common_bottom.params d_common_bottom.body d_common_bottom.scope [] [] (He.fAd K d_common_bottom.at_) fd := F
  intro km hk
  refine fnHas_of (k := 72) (N := ["vector", "result", "entry"]) (ps := ["vector"]) (b := b_common_bottom) F' g.X g.G "common_bottom" rfl (bits g).2.2.2.2.2.2.2.2.2.2.2.2.2.2.2.2.1 (F'.bindsN (fun kV doc pm an cdv ct us hl => by
    match us, hl with
    | [u0], _ => rfl)) (C8.fnScope_by (by decide +kernel)) rfl (by decide) hk (seer g) tree (by decide +kernel) ?_ (fun ds o e => ⟨0, e⟩)
  · simp only [b_common_bottom, OkSs, OkS, OkE, OkL, OkI, PfHas, fnN, eAliG]
    repeat' apply And.intro
    all_goals first | trivial | exact (has_gcd g)
theorem hF_plus (g : Gd w mg mb h base K) : ∀ km, 74 < km → FnHas (gv w mg base K) km "plus" F_plus := by
  obtain ⟨fd, F⟩ := g.c.def_ 5 (d := d_plus) rfl
  have F' : FunD K d_plus.name d_plus.qual d_plus.params d_plus.body d_plus.scope [] [] (He.fAd K d_plus.at_) fd := F
  intro km hk
  refine fnHas_of (k := 74) (N := ["one", "other"]) (ps := ["one", "other"]) (b := b_plus) F' g.X g.G "plus" rfl (bits g).2.2.2.2.2.2.2.2.2.2.2.2.2.2.2.2.2.1 (F'.bindsN (fun kV doc pm an cdv ct us hl => by
    match us, hl with
    | [u0, u1], _ => rfl)) (C8.fnScope_by (by decide +kernel)) rfl (by decide) hk (seer g) tree (by decide +kernel) ?_ hm_plus
  · simp only [b_plus, OkSs, OkS, OkE, OkL, OkI, PfHas, fnN, eAliG]
    repeat' apply And.intro
    all_goals first | trivial | exact (hF_lowest g _ (by decide))
theorem hF_total (g : Gd w mg mb h base K) : ∀ km, 76 < km → FnHas (gv w mg base K) km "total" F_total := by
  obtain ⟨fd, F⟩ := g.c.def_ 6 (d := d_total) rfl
  have F' : FunD K d_total.name d_total.qual d_total.params d_total.body d_total.scope [] [] (He.fAd K d_total.at_) fd := F
  intro km hk
  refine fnHas_of (k := 76) (N := ["vector", "result", "entry"]) (ps := ["vector"]) (b := b_total) F' g.X g.G "total" rfl (bits g).2.2.2.2.2.2.2.2.2.2.2.2.2.2.2.2.2.2.1 (F'.bindsN (fun kV doc pm an cdv ct us hl => by
    match us, hl with
    | [u0], _ => rfl)) (C8.fnScope_by (by decide +kernel)) rfl (by decide) hk (seer g) tree (by decide +kernel) ?_ (fun ds o e => ⟨0, e⟩)
  · simp only [b_total, OkSs, OkS, OkE, OkL, OkI, PfHas, fnN, eAliG]
    repeat' apply And.intro
    all_goals first | trivial | exact (hF_plus g _ (by decide)) | exact (c_ZERO g)
theorem hF_are_chances (g : Gd w mg mb h base K) : ∀ km, 78 < km → FnHas (gv w mg base K) km "are_chances" F_are_chances := by
  obtain ⟨fd, F⟩ := g.c.def_ 14 (d := d_are_chances) rfl
  have F' : FunD K d_are_chances.name d_are_chances.qual d_are_chances.params d_are_chances.body d_are_chances.scope [] [] (He.fAd K d_are_chances.at_) fd := F
  intro km hk
  refine fnHas_of (k := 78) (N := ["values", "value", "shares", "share"]) (ps := ["values"]) (b := b_are_chances) F' g.X g.G "are_chances" rfl (bits g).2.2.2.2.2.2.2.2.2.2.2.2.2.2.2.2.2.2.2.1 (F'.bindsN (fun kV doc pm an cdv ct us hl => by
    match us, hl with
    | [u0], _ => rfl)) (C8.fnScope_by (by decide +kernel)) rfl (by decide) hk (seer g) tree (by decide +kernel) ?_ (fun ds o e => ⟨0, e⟩)
  · simp only [b_are_chances, OkSs, OkS, OkE, OkL, OkI, PfHas, fnN, eAliG]
    repeat' apply And.intro
    all_goals first | trivial | exact (hF_is_fraction g _ (by decide)) | exact (hF_checked g _ (by decide)) | exact (hF_common_bottom g _ (by decide)) | exact (hF_total g _ (by decide)) | exact (c_MOST_BOTTOM g) | exact (c_ONE g)
theorem hF_is_outcome (g : Gd w mg mb h base K) : ∀ km, 80 < km → FnHas (gv w mg base K) km "is_outcome" F_is_outcome := by
  obtain ⟨fd, F⟩ := g.c.def_ 15 (d := d_is_outcome) rfl
  have F' : FunD K d_is_outcome.name d_is_outcome.qual d_is_outcome.params d_is_outcome.body d_is_outcome.scope [] [] (He.fAd K d_is_outcome.at_) fd := F
  intro km hk
  refine fnHas_of (k := 80) (N := ["value", "many", "number"]) (ps := ["value", "many"]) (b := b_is_outcome) F' g.X g.G "is_outcome" rfl (bits g).2.2.2.2.2.2.2.2.2.2.2.2.2.2.2.2.2.2.2.2.1 (F'.bindsN (fun kV doc pm an cdv ct us hl => by
    match us, hl with
    | [u0, u1], _ => rfl)) (C8.fnScope_by (by decide +kernel)) rfl (by decide) hk (seer g) tree (by decide +kernel) ?_ (fun ds o e => ⟨0, e⟩)
  · simp only [b_is_outcome, OkSs, OkS, OkE, OkL, OkI, PfHas, fnN, eAliG]
    repeat' apply And.intro
    all_goals first | trivial | exact (hF_is_whole g _ (by decide)) | exact (fr_isinstance g) | exact (fr_list g) | exact (fr_len g) | exact (c_MOST_PAGES g)
theorem hF_weight_of (g : Gd w mg mb h base K) : ∀ km, 82 < km → FnHas (gv w mg base K) km "weight_of" F_weight_of := by
  obtain ⟨fd, F⟩ := g.c.def_ 16 (d := d_weight_of) rfl
  have F' : FunD K d_weight_of.name d_weight_of.qual d_weight_of.params d_weight_of.body d_weight_of.scope [] [] (He.fAd K d_weight_of.at_) fd := F
  intro km hk
  refine fnHas_of (k := 82) (N := ["sizes", "numbers", "size", "number"]) (ps := ["sizes", "numbers"]) (b := b_weight_of) F' g.X g.G "weight_of" rfl (bits g).2.2.2.2.2.2.2.2.2.2.2.2.2.2.2.2.2.2.2.2.2.1 (F'.bindsN (fun kV doc pm an cdv ct us hl => by
    match us, hl with
    | [u0, u1], _ => rfl)) (C8.fnScope_by (by decide +kernel)) rfl (by decide) hk (seer g) tree (by decide +kernel) ?_ (fun ds o e => ⟨0, e⟩)
  · simp only [b_weight_of, OkSs, OkS, OkE, OkL, OkI, PfHas, fnN, eAliG]
    repeat' apply And.intro
    all_goals first | trivial | exact (fr_sum g) | exact (fr_zip g)
theorem hF_check_lottery (g : Gd w mg mb h base K) : ∀ km, 84 < km → FnHas (gv w mg base K) km "check_lottery" F_check_lottery := by
  obtain ⟨fd, F⟩ := g.c.def_ 17 (d := d_check_lottery) rfl
  have F' : FunD K d_check_lottery.name d_check_lottery.qual d_check_lottery.params d_check_lottery.body d_check_lottery.scope [] [] (He.fAd K d_check_lottery.at_) fd := F
  intro km hk
  refine fnHas_of (k := 84) (N := ["value", "kind", "sizes", "entry", "entries", "outcome", "share"]) (ps := ["value", "kind", "sizes"]) (b := b_check_lottery) F' g.X g.G "check_lottery" rfl (bits g).2.2.2.2.2.2.2.2.2.2.2.2.2.2.2.2.2.2.2.2.2.2.1 (F'.bindsN (fun kV doc pm an cdv ct us hl => by
    match us, hl with
    | [u0, u1, u2], _ => rfl)) (C8.fnScope_by (by decide +kernel)) rfl (by decide) hk (seer g) tree (by decide +kernel) ?_ (fun ds o e => ⟨0, e⟩)
  · simp only [b_check_lottery, OkSs, OkS, OkE, OkL, OkI, PfHas, fnN, eAliG]
    repeat' apply And.intro
    all_goals first | trivial | exact (hF_has_form g _ (by decide)) | exact (hF_are_chances g _ (by decide)) | exact (hF_is_outcome g _ (by decide)) | exact (hF_checked g _ (by decide)) | exact (hF_weight_of g _ (by decide)) | exact (fr_len g) | exact (fr_tuple g) | exact (fr_sorted g) | exact (x_InvalidBook g)
theorem hF_check_rules (g : Gd w mg mb h base K) : ∀ km, 86 < km → FnHas (gv w mg base K) km "check_rules" F_check_rules := by
  obtain ⟨fd, F⟩ := g.c.def_ 18 (d := d_check_rules) rfl
  have F' : FunD K d_check_rules.name d_check_rules.qual d_check_rules.params d_check_rules.body d_check_rules.scope [] [] (He.fAd K d_check_rules.at_) fd := F
  intro km hk
  refine fnHas_of (k := 86) (N := ["value", "sizes", "lots", "kind", "lottery"]) (ps := ["value", "sizes"]) (b := b_check_rules) F' g.X g.G "check_rules" rfl (bits g).2.2.2.2.2.2.2.2.2.2.2.2.2.2.2.2.2.2.2.2.2.2.2.1 (F'.bindsN (fun kV doc pm an cdv ct us hl => by
    match us, hl with
    | [u0, u1], _ => rfl)) (C8.fnScope_by (by decide +kernel)) rfl (by decide) hk (seer g) tree (by decide +kernel) ?_ (fun ds o e => ⟨0, e⟩)
  · simp only [b_check_rules, OkSs, OkS, OkE, OkL, OkI, PfHas, fnN, eAliG]
    repeat' apply And.intro
    all_goals first | trivial | exact (hF_check_lottery g _ (by decide)) | exact (fr_isinstance g) | exact (fr_list g) | exact (fr_len g) | exact (fr_enumerate g) | exact (x_InvalidBook g)
theorem hM_Book___init__ (g : Gd w mg mb h base K) : ∀ km, 89 < km → MakeHas (gv w mg base K) km "Book" F_Book___init__ := by
  obtain ⟨fd, F⟩ := g.c.def_ 19 (d := d_Book_init) rfl
  have F' : FunD K d_Book_init.name d_Book_init.qual d_Book_init.params d_Book_init.body d_Book_init.scope [] [] (He.fAd K d_Book_init.at_) fd := F
  intro km hk
  refine makeHas_of (k := 88) (N := ["self", "weights", "rules"]) (ps := ["self", "weights", "rules"]) (b := b_Book___init__) F' g.X g.G "Book" (bits g).2.2.2.2.2.2.2.2.2.2.2.2.2.2.2.2.2.2.2.2.2.2.2.2.2.2.2.2.2.2.2.2.2.2.1 (F'.bindsN (fun kV doc pm an cdv ct us hl => by
    match us, hl with
    | [u0, u1, u2], _ => rfl)) (C8.fnScope_by (by decide +kernel)) rfl (by decide) hk (seer g) tree (by decide +kernel) ?_ (fun ds o e => ⟨0, e⟩)
  · simp only [b_Book___init__, OkSs, OkS, OkE, OkL, OkI, PfHas, fnN, eAliG]
    repeat' apply And.intro
    all_goals first | trivial | exact (hF_check_weights g _ (by decide)) | exact (hF_check_rules g _ (by decide)) | exact (cl_Book g (by decide))
theorem hF_L_rules (g : Gd w mg mb h base K) : ∀ km, 90 < km → FnHas (gv w mg base K) km "_law_rules" F_L_rules := by
  obtain ⟨fd, F⟩ := g.c.def_ 45 (d := d_L_rules) rfl
  have F' : FunD K d_L_rules.name d_L_rules.qual d_L_rules.params d_L_rules.body d_L_rules.scope [] [] (He.fAd K d_L_rules.at_) fd := F
  intro km hk
  refine fnHas_of (k := 90) (N := ["_law_lots", "_law_entry", "_law_lot"]) (ps := ["_law_lots"]) (b := b_L_rules) F' g.X g.G "_law_rules" rfl (bits g).2.2.2.2.2.2.2.2.2.2.2.2.2.2.2.2.2.2.2.2.2.2.2.2.1 (F'.bindsN (fun kV doc pm an cdv ct us hl => by
    match us, hl with
    | [u0], _ => rfl)) (C8.fnScope_by (by decide +kernel)) rfl (by decide) hk (seer g) tree (by decide +kernel) ?_ (fun ds o e => ⟨0, e⟩)
  · simp only [b_L_rules, OkSs, OkS, OkE, OkL, OkI, PfHas, fnN, eAliG]
    repeat' apply And.intro
    all_goals first | trivial | exact (fr_list g)
theorem hF_L_low (g : Gd w mg mb h base K) : ∀ km, 92 < km → FnHas (gv w mg base K) km "_law_low" F_L_low := by
  obtain ⟨fd, F⟩ := g.c.def_ 34 (d := d_L_low) rfl
  have F' : FunD K d_L_low.name d_L_low.qual d_L_low.params d_L_low.body d_L_low.scope [] [] (He.fAd K d_L_low.at_) fd := F
  intro km hk
  refine fnHas_of (k := 92) (N := ["_law_top", "_law_bottom", "_law_common"]) (ps := ["_law_top", "_law_bottom"]) (b := b_L_low) F' g.X g.G "_law_low" rfl (bits g).2.2.2.2.2.2.2.2.2.2.2.2.2.2.2.2.2.2.2.2.2.2.2.2.2.1 (F'.bindsN (fun kV doc pm an cdv ct us hl => by
    match us, hl with
    | [u0, u1], _ => rfl)) (C8.fnScope_by (by decide +kernel)) rfl (by decide) hk (seer g) tree (by decide +kernel) ?_ hm_L_low
  · simp only [b_L_low, OkSs, OkS, OkE, OkL, OkI, PfHas, fnN, eAliG]
    repeat' apply And.intro
    all_goals first | trivial | exact (hF_L_gcd g _ (by decide)) | exact (fr_abs g)
theorem hF_whole_matrix (g : Gd w mg mb h base K) : ∀ km, 94 < km → FnHas (gv w mg base K) km "whole_matrix" F_whole_matrix := by
  obtain ⟨fd, F⟩ := g.c.def_ 30 (d := d_whole_matrix) rfl
  have F' : FunD K d_whole_matrix.name d_whole_matrix.qual d_whole_matrix.params d_whole_matrix.body d_whole_matrix.scope [] [] (He.fAd K d_whole_matrix.at_) fd := F
  intro km hk
  refine fnHas_of (k := 94) (N := ["book", "bottom", "entries", "share", "outcome", "many", "rows", "kind", "part", "line"]) (ps := ["book"]) (b := b_whole_matrix) F' g.X g.G "whole_matrix" rfl (bits g).2.2.2.2.2.2.2.2.2.2.2.2.2.2.2.2.2.2.2.2.2.2.2.2.2.2.1 (F'.bindsN (fun kV doc pm an cdv ct us hl => by
    match us, hl with
    | [u0], _ => rfl)) (C8.fnScope_by (by decide +kernel)) rfl (by decide) hk (seer g) tree (by decide +kernel) ?_ (fun ds o e => ⟨0, e⟩)
  · simp only [b_whole_matrix_12, b_whole_matrix_11, b_whole_matrix_10, b_whole_matrix_9, b_whole_matrix_8, b_whole_matrix_7, b_whole_matrix_6, b_whole_matrix_5, b_whole_matrix_4, b_whole_matrix_3, b_whole_matrix_2, b_whole_matrix_1, b_whole_matrix, OkSs, OkS, OkE, OkL, OkI, PfHas, fnN, eAliG]
    repeat' apply And.intro
    all_goals first | trivial | exact (has_gcd g) | exact (fr_len g) | exact (fr_range g) | exact (cl_Book g (by decide))
theorem hF_Book_matrix (g : Gd w mg mb h base K) : ∀ km, 96 < km → MethHas (gv w mg base K) km "Book" "matrix" F_Book_matrix := by
  obtain ⟨fd, F⟩ := g.c.def_ 27 (d := d_Book_matrix) rfl
  have F' : FunD K d_Book_matrix.name d_Book_matrix.qual d_Book_matrix.params d_Book_matrix.body d_Book_matrix.scope [] [] (He.fAd K d_Book_matrix.at_) fd := F
  intro km hk
  refine methHas_of (k := 96) (N := ["self", "rows", "bottom", "entry", "line"]) (ps := ["self"]) (b := b_Book_matrix) F' g.X g.G "Book" "matrix" (bits g).2.2.2.2.2.2.2.2.2.2.2.2.2.2.2.2.2.2.2.2.2.2.2.2.2.2.2.2.2.2.2.2.1 (bits g).2.2.2.2.2.2.2.2.2.2.2.2.2.2.2.2.2.2.2.2.2.2.2.2.2.2.2.2.2.2.2.2.2.1 (F'.bindsN (fun kV doc pm an cdv ct us hl => by
    match us, hl with
    | [u0], _ => rfl)) (C8.fnScope_by (by decide +kernel)) rfl (by decide) hk (seer g) tree (by decide +kernel) ?_ (fun ds o e => ⟨0, e⟩)
  · simp only [b_Book_matrix_1, b_Book_matrix, OkSs, OkS, OkE, OkL, OkI, PfHas, fnN, eAliG]
    repeat' apply And.intro
    all_goals first | trivial | exact (hF_whole_matrix g _ (by decide)) | exact (hF_lowest g _ (by decide))
theorem hF_L_is_int (g : Gd w mg mb h base K) : ∀ km, 98 < km → FnHas (gv w mg base K) km "_law_is_int" F_L_is_int := by
  obtain ⟨fd, F⟩ := g.c.def_ 31 (d := d_L_is_int) rfl
  have F' : FunD K d_L_is_int.name d_L_is_int.qual d_L_is_int.params d_L_is_int.body d_L_is_int.scope [] [] (He.fAd K d_L_is_int.at_) fd := F
  intro km hk
  refine fnHas_of (k := 98) (N := ["_law_told"]) (ps := ["_law_told"]) (b := b_L_is_int) F' g.X g.G "_law_is_int" rfl (bits g).2.2.2.2.2.2.2.2.2.2.2.2.2.2.2.2.2.2.2.2.2.2.2.2.2.2.2.1 (F'.bindsN (fun kV doc pm an cdv ct us hl => by
    match us, hl with
    | [u0], _ => rfl)) (C8.fnScope_by (by decide +kernel)) rfl (by decide) hk (seer g) tree (by decide +kernel) ?_ hm_L_is_int
  · simp only [b_L_is_int, OkSs, OkS, OkE, OkL, OkI, PfHas, fnN, eAliG]
    repeat' apply And.intro
    all_goals first | trivial | exact (fr_isinstance g) | exact (fr_int g) | exact (fr_bool g)
theorem hF_L_same0 (g : Gd w mg mb h base K) : ∀ km, 100 < km → FnHas (gv w mg base K) km "_law_same" (F_L_same 0) := by
  obtain ⟨fd, F⟩ := g.c.def_ 32 (d := d_L_same) rfl
  have F' : FunD K d_L_same.name d_L_same.qual d_L_same.params d_L_same.body d_L_same.scope [] [] (He.fAd K d_L_same.at_) fd := F
  intro km hk
  exact fnHas_nil (k := 100) (ps := ["_law_told", "_law_due"]) F' g.X g.G "_law_same" rfl (bits g).2.2.2.2.2.2.2.2.2.2.2.2.2.2.2.2.2.2.2.2.2.2.2.2.2.2.2.2.1 (F'.bindsN (fun kV doc pm an cdv ct us hl => by
    match us, hl with
    | [u0, u1], _ => rfl)) (C8.fnScope_by (N := ["_law_told", "_law_due", "_law_k"]) (by decide +kernel)) rfl hk (fun ds => by
    match ds with
    | [] => rfl
    | [a] => rfl
    | [a, b] => simp [F_L_same, m_same, plain_0]
    | _ :: _ :: _ :: _ => rfl)
theorem hF_L_same1 (g : Gd w mg mb h base K) : ∀ km, 101 < km → FnHas (gv w mg base K) km "_law_same" (F_L_same 1) := by
  obtain ⟨fd, F⟩ := g.c.def_ 32 (d := d_L_same) rfl
  have F' : FunD K d_L_same.name d_L_same.qual d_L_same.params d_L_same.body d_L_same.scope [] [] (He.fAd K d_L_same.at_) fd := F
  intro km hk
  refine fnHas_of (k := 101) (N := ["_law_told", "_law_due", "_law_k"]) (ps := ["_law_told", "_law_due"]) (b := (b_L_same 0)) F' g.X g.G "_law_same" rfl (bits g).2.2.2.2.2.2.2.2.2.2.2.2.2.2.2.2.2.2.2.2.2.2.2.2.2.2.2.2.1 (F'.bindsN (fun kV doc pm an cdv ct us hl => by
    match us, hl with
    | [u0, u1], _ => rfl)) (C8.fnScope_by (by decide +kernel)) rfl (by decide) hk (seer g) tree (by decide +kernel) ?_ (hm_L_same 0)
  · simp only [b_L_same, OkSs, OkS, OkE, OkL, OkI, PfHas, fnN, eAliG]
    repeat' apply And.intro
    all_goals first | trivial | exact (hF_L_is_int g _ (by decide)) | exact (fr_isinstance g) | exact (fr_bool g) | exact (fr_int g) | exact (fr_str g) | exact (fr_list g) | exact (fr_tuple g) | exact (fr_len g) | exact (fr_range g) | exact (hF_L_same0 g _ (by decide))
theorem hF_L_same2 (g : Gd w mg mb h base K) : ∀ km, 102 < km → FnHas (gv w mg base K) km "_law_same" (F_L_same 2) := by
  obtain ⟨fd, F⟩ := g.c.def_ 32 (d := d_L_same) rfl
  have F' : FunD K d_L_same.name d_L_same.qual d_L_same.params d_L_same.body d_L_same.scope [] [] (He.fAd K d_L_same.at_) fd := F
  intro km hk
  refine fnHas_of (k := 102) (N := ["_law_told", "_law_due", "_law_k"]) (ps := ["_law_told", "_law_due"]) (b := (b_L_same 1)) F' g.X g.G "_law_same" rfl (bits g).2.2.2.2.2.2.2.2.2.2.2.2.2.2.2.2.2.2.2.2.2.2.2.2.2.2.2.2.1 (F'.bindsN (fun kV doc pm an cdv ct us hl => by
    match us, hl with
    | [u0, u1], _ => rfl)) (C8.fnScope_by (by decide +kernel)) rfl (by decide) hk (seer g) tree (by decide +kernel) ?_ (hm_L_same 1)
  · simp only [b_L_same, OkSs, OkS, OkE, OkL, OkI, PfHas, fnN, eAliG]
    repeat' apply And.intro
    all_goals first | trivial | exact (hF_L_is_int g _ (by decide)) | exact (fr_isinstance g) | exact (fr_bool g) | exact (fr_int g) | exact (fr_str g) | exact (fr_list g) | exact (fr_tuple g) | exact (fr_len g) | exact (fr_range g) | exact (hF_L_same1 g _ (by decide))
theorem hF_L_same3 (g : Gd w mg mb h base K) : ∀ km, 103 < km → FnHas (gv w mg base K) km "_law_same" (F_L_same 3) := by
  obtain ⟨fd, F⟩ := g.c.def_ 32 (d := d_L_same) rfl
  have F' : FunD K d_L_same.name d_L_same.qual d_L_same.params d_L_same.body d_L_same.scope [] [] (He.fAd K d_L_same.at_) fd := F
  intro km hk
  refine fnHas_of (k := 103) (N := ["_law_told", "_law_due", "_law_k"]) (ps := ["_law_told", "_law_due"]) (b := (b_L_same 2)) F' g.X g.G "_law_same" rfl (bits g).2.2.2.2.2.2.2.2.2.2.2.2.2.2.2.2.2.2.2.2.2.2.2.2.2.2.2.2.1 (F'.bindsN (fun kV doc pm an cdv ct us hl => by
    match us, hl with
    | [u0, u1], _ => rfl)) (C8.fnScope_by (by decide +kernel)) rfl (by decide) hk (seer g) tree (by decide +kernel) ?_ (hm_L_same 2)
  · simp only [b_L_same, OkSs, OkS, OkE, OkL, OkI, PfHas, fnN, eAliG]
    repeat' apply And.intro
    all_goals first | trivial | exact (hF_L_is_int g _ (by decide)) | exact (fr_isinstance g) | exact (fr_bool g) | exact (fr_int g) | exact (fr_str g) | exact (fr_list g) | exact (fr_tuple g) | exact (fr_len g) | exact (fr_range g) | exact (hF_L_same2 g _ (by decide))
theorem hF_L_same4 (g : Gd w mg mb h base K) : ∀ km, 104 < km → FnHas (gv w mg base K) km "_law_same" (F_L_same 4) := by
  obtain ⟨fd, F⟩ := g.c.def_ 32 (d := d_L_same) rfl
  have F' : FunD K d_L_same.name d_L_same.qual d_L_same.params d_L_same.body d_L_same.scope [] [] (He.fAd K d_L_same.at_) fd := F
  intro km hk
  refine fnHas_of (k := 104) (N := ["_law_told", "_law_due", "_law_k"]) (ps := ["_law_told", "_law_due"]) (b := (b_L_same 3)) F' g.X g.G "_law_same" rfl (bits g).2.2.2.2.2.2.2.2.2.2.2.2.2.2.2.2.2.2.2.2.2.2.2.2.2.2.2.2.1 (F'.bindsN (fun kV doc pm an cdv ct us hl => by
    match us, hl with
    | [u0, u1], _ => rfl)) (C8.fnScope_by (by decide +kernel)) rfl (by decide) hk (seer g) tree (by decide +kernel) ?_ (hm_L_same 3)
  · simp only [b_L_same, OkSs, OkS, OkE, OkL, OkI, PfHas, fnN, eAliG]
    repeat' apply And.intro
    all_goals first | trivial | exact (hF_L_is_int g _ (by decide)) | exact (fr_isinstance g) | exact (fr_bool g) | exact (fr_int g) | exact (fr_str g) | exact (fr_list g) | exact (fr_tuple g) | exact (fr_len g) | exact (fr_range g) | exact (hF_L_same3 g _ (by decide))
theorem hF_L_same5 (g : Gd w mg mb h base K) : ∀ km, 105 < km → FnHas (gv w mg base K) km "_law_same" (F_L_same 5) := by
  obtain ⟨fd, F⟩ := g.c.def_ 32 (d := d_L_same) rfl
  have F' : FunD K d_L_same.name d_L_same.qual d_L_same.params d_L_same.body d_L_same.scope [] [] (He.fAd K d_L_same.at_) fd := F
  intro km hk
  refine fnHas_of (k := 105) (N := ["_law_told", "_law_due", "_law_k"]) (ps := ["_law_told", "_law_due"]) (b := (b_L_same 4)) F' g.X g.G "_law_same" rfl (bits g).2.2.2.2.2.2.2.2.2.2.2.2.2.2.2.2.2.2.2.2.2.2.2.2.2.2.2.2.1 (F'.bindsN (fun kV doc pm an cdv ct us hl => by
    match us, hl with
    | [u0, u1], _ => rfl)) (C8.fnScope_by (by decide +kernel)) rfl (by decide) hk (seer g) tree (by decide +kernel) ?_ (hm_L_same 4)
  · simp only [b_L_same, OkSs, OkS, OkE, OkL, OkI, PfHas, fnN, eAliG]
    repeat' apply And.intro
    all_goals first | trivial | exact (hF_L_is_int g _ (by decide)) | exact (fr_isinstance g) | exact (fr_bool g) | exact (fr_int g) | exact (fr_str g) | exact (fr_list g) | exact (fr_tuple g) | exact (fr_len g) | exact (fr_range g) | exact (hF_L_same4 g _ (by decide))
theorem hF_L_same6 (g : Gd w mg mb h base K) : ∀ km, 106 < km → FnHas (gv w mg base K) km "_law_same" (F_L_same 6) := by
  obtain ⟨fd, F⟩ := g.c.def_ 32 (d := d_L_same) rfl
  have F' : FunD K d_L_same.name d_L_same.qual d_L_same.params d_L_same.body d_L_same.scope [] [] (He.fAd K d_L_same.at_) fd := F
  intro km hk
  refine fnHas_of (k := 106) (N := ["_law_told", "_law_due", "_law_k"]) (ps := ["_law_told", "_law_due"]) (b := (b_L_same 5)) F' g.X g.G "_law_same" rfl (bits g).2.2.2.2.2.2.2.2.2.2.2.2.2.2.2.2.2.2.2.2.2.2.2.2.2.2.2.2.1 (F'.bindsN (fun kV doc pm an cdv ct us hl => by
    match us, hl with
    | [u0, u1], _ => rfl)) (C8.fnScope_by (by decide +kernel)) rfl (by decide) hk (seer g) tree (by decide +kernel) ?_ (hm_L_same 5)
  · simp only [b_L_same, OkSs, OkS, OkE, OkL, OkI, PfHas, fnN, eAliG]
    repeat' apply And.intro
    all_goals first | trivial | exact (hF_L_is_int g _ (by decide)) | exact (fr_isinstance g) | exact (fr_bool g) | exact (fr_int g) | exact (fr_str g) | exact (fr_list g) | exact (fr_tuple g) | exact (fr_len g) | exact (fr_range g) | exact (hF_L_same5 g _ (by decide))
theorem hF_L_same7 (g : Gd w mg mb h base K) : ∀ km, 107 < km → FnHas (gv w mg base K) km "_law_same" (F_L_same 7) := by
  obtain ⟨fd, F⟩ := g.c.def_ 32 (d := d_L_same) rfl
  have F' : FunD K d_L_same.name d_L_same.qual d_L_same.params d_L_same.body d_L_same.scope [] [] (He.fAd K d_L_same.at_) fd := F
  intro km hk
  refine fnHas_of (k := 107) (N := ["_law_told", "_law_due", "_law_k"]) (ps := ["_law_told", "_law_due"]) (b := (b_L_same 6)) F' g.X g.G "_law_same" rfl (bits g).2.2.2.2.2.2.2.2.2.2.2.2.2.2.2.2.2.2.2.2.2.2.2.2.2.2.2.2.1 (F'.bindsN (fun kV doc pm an cdv ct us hl => by
    match us, hl with
    | [u0, u1], _ => rfl)) (C8.fnScope_by (by decide +kernel)) rfl (by decide) hk (seer g) tree (by decide +kernel) ?_ (hm_L_same 6)
  · simp only [b_L_same, OkSs, OkS, OkE, OkL, OkI, PfHas, fnN, eAliG]
    repeat' apply And.intro
    all_goals first | trivial | exact (hF_L_is_int g _ (by decide)) | exact (fr_isinstance g) | exact (fr_bool g) | exact (fr_int g) | exact (fr_str g) | exact (fr_list g) | exact (fr_tuple g) | exact (fr_len g) | exact (fr_range g) | exact (hF_L_same6 g _ (by decide))
theorem hF_L_same8 (g : Gd w mg mb h base K) : ∀ km, 108 < km → FnHas (gv w mg base K) km "_law_same" (F_L_same 8) := by
  obtain ⟨fd, F⟩ := g.c.def_ 32 (d := d_L_same) rfl
  have F' : FunD K d_L_same.name d_L_same.qual d_L_same.params d_L_same.body d_L_same.scope [] [] (He.fAd K d_L_same.at_) fd := F
  intro km hk
  refine fnHas_of (k := 108) (N := ["_law_told", "_law_due", "_law_k"]) (ps := ["_law_told", "_law_due"]) (b := (b_L_same 7)) F' g.X g.G "_law_same" rfl (bits g).2.2.2.2.2.2.2.2.2.2.2.2.2.2.2.2.2.2.2.2.2.2.2.2.2.2.2.2.1 (F'.bindsN (fun kV doc pm an cdv ct us hl => by
    match us, hl with
    | [u0, u1], _ => rfl)) (C8.fnScope_by (by decide +kernel)) rfl (by decide) hk (seer g) tree (by decide +kernel) ?_ (hm_L_same 7)
  · simp only [b_L_same, OkSs, OkS, OkE, OkL, OkI, PfHas, fnN, eAliG]
    repeat' apply And.intro
    all_goals first | trivial | exact (hF_L_is_int g _ (by decide)) | exact (fr_isinstance g) | exact (fr_bool g) | exact (fr_int g) | exact (fr_str g) | exact (fr_list g) | exact (fr_tuple g) | exact (fr_len g) | exact (fr_range g) | exact (hF_L_same7 g _ (by decide))
theorem hF_L_plus (g : Gd w mg mb h base K) : ∀ km, 110 < km → FnHas (gv w mg base K) km "_law_plus" F_L_plus := by
  obtain ⟨fd, F⟩ := g.c.def_ 35 (d := d_L_plus) rfl
  have F' : FunD K d_L_plus.name d_L_plus.qual d_L_plus.params d_L_plus.body d_L_plus.scope [] [] (He.fAd K d_L_plus.at_) fd := F
  intro km hk
  refine fnHas_of (k := 110) (N := ["_law_one", "_law_other"]) (ps := ["_law_one", "_law_other"]) (b := b_L_plus) F' g.X g.G "_law_plus" rfl (bits g).2.2.2.2.2.2.2.2.2.2.2.2.2.2.2.2.2.2.2.2.2.2.2.2.2.2.2.2.2.1 (F'.bindsN (fun kV doc pm an cdv ct us hl => by
    match us, hl with
    | [u0, u1], _ => rfl)) (C8.fnScope_by (by decide +kernel)) rfl (by decide) hk (seer g) tree (by decide +kernel) ?_ hm_L_plus
  · simp only [b_L_plus, OkSs, OkS, OkE, OkL, OkI, PfHas, fnN, eAliG]
    repeat' apply And.intro
    all_goals first | trivial | exact (hF_L_low g _ (by decide))
theorem hF_L_times (g : Gd w mg mb h base K) : ∀ km, 112 < km → FnHas (gv w mg base K) km "_law_times" F_L_times := by
  obtain ⟨fd, F⟩ := g.c.def_ 36 (d := d_L_times) rfl
  have F' : FunD K d_L_times.name d_L_times.qual d_L_times.params d_L_times.body d_L_times.scope [] [] (He.fAd K d_L_times.at_) fd := F
  intro km hk
  refine fnHas_of (k := 112) (N := ["_law_one", "_law_other"]) (ps := ["_law_one", "_law_other"]) (b := b_L_times) F' g.X g.G "_law_times" rfl (bits g).2.2.2.2.2.2.2.2.2.2.2.2.2.2.2.2.2.2.2.2.2.2.2.2.2.2.2.2.2.2.1 (F'.bindsN (fun kV doc pm an cdv ct us hl => by
    match us, hl with
    | [u0, u1], _ => rfl)) (C8.fnScope_by (by decide +kernel)) rfl (by decide) hk (seer g) tree (by decide +kernel) ?_ hm_L_times
  · simp only [b_L_times, OkSs, OkS, OkE, OkL, OkI, PfHas, fnN, eAliG]
    repeat' apply And.intro
    all_goals first | trivial | exact (hF_L_low g _ (by decide))
theorem law_fd (c : SaysP fns look K) : ∃ fd : FuncData, FunD K d_law.name d_law.qual d_law.params d_law.body d_law.scope [] [] (He.fAd K d_law.at_) fd ∧ ∀ (s : Shared) (u : Value), BindsTo s fd ⟨[u], []⟩ [("_law_script", u)] := by
  obtain ⟨fd, F⟩ := c.def_ 47 (d := d_law) rfl
  have F' : FunD K d_law.name d_law.qual d_law.params d_law.body d_law.scope [] [] (He.fAd K d_law.at_) fd := F
  refine ⟨fd, F', fun s u => ?_⟩
  obtain ⟨oc, od, dV, kV, doc, pm, an, cdv, ct, osl, rfl, lk, hcd, hD, hK⟩ := F'.ex
  rcases hD with ⟨_, rfl⟩ | ⟨e, _⟩
  · exact .of_eq rfl
  · exact absurd rfl e
theorem law_ok (g : Gd w mg mb h base K) {fd : FuncData} (F' : FunD K d_law.name d_law.qual d_law.params d_law.body d_law.scope [] [] (He.fAd K d_law.at_) fd) : FnOk RW.prog w K mg base (L2.CX RW.prog w) 115 (He.fAd K d_law.at_) fd ["_law_script"] (spOf K mg ⟨[false], mLaw⟩) := by
  refine fn_ok (km := 114) (N := ["_law_script", "_law_state", "_law_book_here", "_law_sizes_here", "_law_many", "_law_matrix_here", "_law_made", "_law_due", "_law_told", "_law_i", "_law_total", "_law_j", "_law_line", "_law_entry"]) (b := b_law) F' (C8.fnScope_by (by decide +kernel)) rfl (by decide) (seer g) tree (by decide +kernel) ?_ hm_law
  · simp only [b_law_21, b_law_20, b_law_19, b_law_18, b_law_17, b_law_16, b_law_15, b_law_14, b_law_13, b_law_12, b_law_11, b_law_10, b_law_9, b_law_8, b_law_7, b_law_6, b_law_5, b_law_4, b_law_3, b_law_2, b_law_1, b_law, OkSs, OkS, OkE, OkL, OkI, PfHas, fnN, eAliG]
    repeat' apply And.intro
    all_goals first | trivial | exact (hF_L_start g _ (by decide)) | exact (hF_L_book g _ (by decide)) | exact (hF_L_matrix g _ (by decide)) | exact (hF_L_rules g _ (by decide)) | exact (hF_L_low g _ (by decide)) | exact (hF_Book_matrix g _ (by decide)) | exact (hF_L_same8 g _ (by decide)) | exact (hF_L_plus g _ (by decide)) | exact (hF_L_times g _ (by decide)) | exact (fr_len g) | exact (fr_list g) | exact (fr_range g) | exact (hM_Book___init__ g _ (by decide))
theorem law_at (X : K.In h) (c : SaysP fns look K) (G : h.Ns mainGlobals mg) : mg "law" = some (.ref (He.fAd K d_law.at_)) := by
  have e := c.p
  unfold look at e
  exact PySem.W.mg_of X G (He.eqO_ok (show gloB K "law" = true by
    simp only [Bool.and_eq_true] at e
    exact e.2.2.2.2.2.2.2.2.2.2.2.2.2.2.2.2.2.2.2.2.2.2.2.2.2.2.2.2.2.2.2.1))
end
end HdT
open PySem PySem.W PySem.Calls PyProof.Rows
theorem PySem.Challenge.cw_pageshares_k06_matrix_of_a_book_holds : PySem.Challenge.rw_pageshares_k06_matrix_of_a_book.Holds := by
  w_on; o_law
  refine HandSHeadRun.head_imp (r := OpenLaw.row PySem.Challenge.rw_pageshares_k06_matrix_of_a_book) (q := view (OpenLaw.row PySem.Challenge.rw_pageshares_k06_matrix_of_a_book).prog [0, 53]) (H := HdT.hk) (ob := HdT.obs1) (M := 100000) (loose := HdT.loose) (d := HandSHeadRun.topDef (OpenLaw.row PySem.Challenge.rw_pageshares_k06_matrix_of_a_book).prog 53) (kwd := []) HdT.obs1_eq
    HdT.run (by kernel_rfl) (by kernel_rfl) (by kernel_rfl) (by rfl) (by first | assumption | decide +kernel) (by decide +kernel) ⟨rfl, rfl, rfl, rfl, rfl, by decide +kernel⟩ ?hw ?hc
  case hw => w_witness2
  case hc =>
    refine Pv.walk_P (x := "_law_script") (k := 115) rfl rfl ⟨by decide, by decide, by decide⟩ fun w mg mb fa h K X c G B bi hm => ?_
    obtain ⟨fd, F, hb⟩ := HdT.law_fd c
    have hfa := (HdT.law_at X c G).symm.trans hm
    cases hfa
    exact ⟨fd, hb, fun base Y Gb => HdT.law_ok ⟨X, c, G, B, bi, Y, Gb⟩ F⟩

